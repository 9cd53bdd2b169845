import PyProof.Rows.All
import Wide.All
import OpenK.AllK
import Wide.FinOn
import HandS.ForMost
import HandS.Exc
import HandS.TryMany
import HandS.WordsExc
import HandS.CallSlots
import HandS.Wide
import HandS.Style
import HandS.Flow
import HandS.Defaults
import HandS.Property
import HandS.ExcInit
import HandS.ClsMeth
import HandS.IsInst
import HandS.Deep
import HandS.TupAny
import HandS.RaiseMore
import KE.KOpsOwn
import KE.KStateDown
import HandS.Ends
import HandS.EndBits
import HandS.Head0
import HandS.Head1
import HandS.Head2
import HandS.HeadHook1
import HandS.HeadHook2
import HandS.HeadHook3
import PyProof.InstEq
import HandS.NoneIn
import PySem.Challenge.RW_loopwalks_k44_whole_symmetries_form_a_gr
set_option Elab.async false
set_option linter.all false
set_option maxRecDepth 100000
set_option maxHeartbeats 0
/-! Lw: Python values as trees over a store of cells, and what simulates them in the layer HandS. -/
namespace Lw
open PySem PySem.Spec PyProof.Rows L2

/-- a value: tuples are trees, a mutable object is a cell of the store -/
inductive D where
  | non | bl (b : Bool) | int (i : Int) | str (s : Str) | tup (ds : List D) | ref (n : Nat) | nm (x : Str) | adr (a : Addr)
  deriving Inhabited

/-- a cell of the store -/
inductive O where
  | lst (ds : List D)
  | frz (ds : List D)
  | ins (c : Str) (fs : List (Str × D))
  | dic (kvs : List (D × D))
  | nil
  deriving Inhabited

/-- an exception: its class by the module's name, its fields -/
structure Exc where
  c : Str
  fs : List (Str × D)

abbrev Sto := List O
abbrev Sg := List (Option D)
abbrev QD := D → Sto → Prop
abbrev QX := Exc → Sto → Prop
abbrev ME := Sg → Sto → QD → QX → Prop
abbrev MA := Sg → Sto → (List D → Sto → Prop) → QX → Prop
abbrev MT := Sg → Sto → (Bool → Sto → Prop) → QX → Prop
structure MEnds where
  nx : Sg → Sto → Prop
  rt : QD
  bk : Sg → Sto → Prop
  ct : Sg → Sto → Prop
  ex : Exc → Sg → Sto → Prop
abbrev MS := MEnds → Sg → Sto → Prop

/-! ### the simulation -/
abbrev Mg := Str → Option Value
section
variable (K : PySem.W.Frag) (mg : Mg) (r : List Addr) (H : Hp)
mutual
inductive RelD : D → V → Prop
  | non : RelD .non .non
  | bl (b : Bool) : RelD (.bl b) (.bl b)
  | int (i : Int) : RelD (.int i) (.int i)
  | str (s : Str) : RelD (.str s) (.str s)
  | tup {ds : List D} {a : Addr} {vs : List V} (h : SqT K H a vs) (q : RelDs ds vs) : RelD (.tup ds) (.ref a)
  | ref {n : Nat} {a : Addr} (h : r[n]? = some a) : RelD (.ref n) (.ref a)
  | nm {x : Str} {a : Addr} (h : mg x = some (.ref a)) : RelD (.nm x) (.ref a)
  | adr (a : Addr) : RelD (.adr a) (.ref a)
inductive RelDs : List D → List V → Prop
  | nil : RelDs [] []
  | cons {d : D} {v : V} {ds : List D} {vs : List V} (h : RelD d v) (q : RelDs ds vs) : RelDs (d :: ds) (v :: vs)
end
inductive RelFs : List (Str × D) → List (Str × V) → Prop
  | nil : RelFs [] []
  | cons {f : Str} {d : D} {v : V} {ds : List (Str × D)} {vs : List (Str × V)} (h : RelD K mg r H d v) (q : RelFs ds vs) : RelFs ((f, d) :: ds) ((f, v) :: vs)
/-- what stands at an address for a cell -/
inductive RelO : O → Addr → Prop
  | lst {ds : List D} {a : Addr} {vs : List V} (h : H a = some (.lst vs)) (q : RelDs K mg r H ds vs) : RelO (.lst ds) a
  | frz {ds : List D} {a : Addr} {o : Obj} {vs : List V} (h : H a = some (.frz o (.lst vs))) (q : RelDs K mg r H ds vs) : RelO (.frz ds) a
  | ins {c : Str} {fs : List (Str × D)} {a C dx : Addr} {vs : List (Str × V)} (h : H a = some (.ins C dx vs)) (hd : H dx = some (.own a)) (hc : mg c = some (.ref C)) (q : RelFs K mg r H fs vs) : RelO (.ins c fs) a
structure Sim (S : Sto) : Prop where
  len : r.length = S.length
  nd : r.Nodup
  obj : ∀ (n : Nat) (o : O) (a : Addr), S[n]? = some o → r[n]? = some a → RelO K mg r H o a
structure RelG (sd : Sg) (s : L2.St) : Prop where
  len : sd.length = s.length
  at_ : ∀ (i : Nat) (d : D), sd[i]? = some (some d) → ∃ v, s[i]? = some (some v) ∧ RelD K mg r H d v
/-- an exception as it lies -/
inductive RelX : Exc → Value → Option Addr → Prop
  | own0 {c : Str} {C : Addr} {d : Option Addr} (hc : mg c = some (.ref C)) : RelX ⟨c, []⟩ (.ref C) d
  | own {c : Str} {C a : Addr} {fs : List (Str × D)} {vs : List (Str × V)} (hc : mg c = some (.ref C)) (hd : H a = some (.xd vs)) (q : RelFs K mg r H fs vs) : RelX ⟨c, fs⟩ (.ref C) (some a)
  | blt {c : String} {d : Option Addr} (hm : mg (Str.ofString c) = none) : RelX ⟨Str.ofString c, []⟩ (.type c) d
end
/-- cells keep their places, tuples, frozen things, dicts of exceptions stand -/
structure Wk (r : List Addr) (H : Hp) (r' : List Addr) (H' : Hp) : Prop where
  ext : ∀ (n : Nat) (a : Addr), r[n]? = some a → r'[n]? = some a
  tup : ∀ (a : Addr) (xs : List V), H a = some (.tup xs) → H' a = some (.tup xs)
  frz : ∀ (a : Addr) (o : Obj) (u : HO), H a = some (.frz o u) → H' a = some (.frz o u)
  xd : ∀ (a : Addr) (fs : List (Str × V)), H a = some (.xd fs) → H' a = some (.xd fs)
/-- how the abstract heap goes on: .. and all that is no cell stands -/
structure Stp (r : List Addr) (H : Hp) (r' : List Addr) (H' : Hp) : Prop extends Wk r H r' H' where
  new : ∀ a ∈ r', a ∉ r → H a = none
  out : ∀ (a : Addr) (o : HO), H a = some o → a ∉ r → H' a = some o
section
variable {K : PySem.W.Frag} {mg : Mg} {r r' r'' : List Addr} {H H' H'' : Hp}
theorem Wk.refl : Wk r H r H := ⟨fun _ _ h => h, fun _ _ h => h, fun _ _ _ h => h, fun _ _ h => h⟩
theorem Stp.refl : Stp r H r H := ⟨.refl, fun _ h n => absurd h n, fun _ _ h _ => h⟩
theorem Stp.sub (x : Stp r H r' H') : ∀ a ∈ r, a ∈ r' := fun a h => by
  obtain ⟨n, hn⟩ := List.mem_iff_getElem?.mp h
  exact List.mem_iff_getElem?.mpr ⟨n, x.ext n a hn⟩
theorem Wk.trans (x : Wk r H r' H') (y : Wk r' H' r'' H'') : Wk r H r'' H'' :=
  ⟨fun n a h => y.ext n a (x.ext n a h), fun a xs h => y.tup a xs (x.tup a xs h), fun a o u h => y.frz a o u (x.frz a o u h), fun a fs h => y.xd a fs (x.xd a fs h)⟩
theorem Stp.trans (x : Stp r H r' H') (y : Stp r' H' r'' H'') : Stp r H r'' H'' where
  toWk := x.toWk.trans y.toWk
  new := fun a h n => by
    by_cases q : a ∈ r'
    · exact x.new a q n
    · cases e : H a with
      | none => rfl
      | some o =>
        have z := y.new a h q
        rw [x.out a o e n] at z
        cases z
  out := fun a o h n => by
    by_cases q : a ∈ r'
    · have z := x.new a q n
      rw [h] at z; cases z
    · exact y.out a o (x.out a o h n) q
theorem Wk.sqT (x : Wk r H r' H') {a : Addr} {xs : List V} (h : SqT K H a xs) : SqT K H' a xs := by
  rcases h with (h | ⟨o, h⟩) | h
  · exact .inl (.inl (x.tup _ _ h))
  · exact .inl (.inr ⟨o, x.frz _ _ _ h⟩)
  · exact .inr h
theorem Stp.sqT (x : Stp r H r' H') {a : Addr} {xs : List V} (h : SqT K H a xs) : SqT K H' a xs := x.toWk.sqT h
mutual
theorem RelD.monoW (x : Wk r H r' H') : ∀ {d : D} {v : V}, RelD K mg r H d v → RelD K mg r' H' d v
  | _, _, .non => .non
  | _, _, .bl b => .bl b
  | _, _, .int i => .int i
  | _, _, .str s => .str s
  | _, _, .tup h q => .tup (x.sqT h) (RelDs.monoW x q)
  | _, _, .ref h => .ref (x.ext _ _ h)
  | _, _, .nm h => .nm h
  | _, _, .adr a => .adr a
theorem RelDs.monoW (x : Wk r H r' H') : ∀ {ds : List D} {vs : List V}, RelDs K mg r H ds vs → RelDs K mg r' H' ds vs
  | _, _, .nil => .nil
  | _, _, .cons h q => .cons (RelD.monoW x h) (RelDs.monoW x q)
end
theorem RelFs.monoW (x : Wk r H r' H') {fs : List (Str × D)} {vs : List (Str × V)} (h : RelFs K mg r H fs vs) : RelFs K mg r' H' fs vs := by
  induction h with
  | nil => exact .nil
  | cons h _ ih => exact .cons (h.monoW x) ih
theorem RelD.mono (x : Stp r H r' H') {d : D} {v : V} (h : RelD K mg r H d v) : RelD K mg r' H' d v := h.monoW x.toWk
theorem RelDs.mono (x : Stp r H r' H') {ds : List D} {vs : List V} (h : RelDs K mg r H ds vs) : RelDs K mg r' H' ds vs := h.monoW x.toWk
theorem RelFs.mono (x : Stp r H r' H') {fs : List (Str × D)} {vs : List (Str × V)} (h : RelFs K mg r H fs vs) : RelFs K mg r' H' fs vs := h.monoW x.toWk
theorem RelG.mono (x : Stp r H r' H') {sd : Sg} {s : L2.St} (h : RelG K mg r H sd s) : RelG K mg r' H' sd s :=
  ⟨h.len, fun i d e => let ⟨v, e', q⟩ := h.at_ i d e; ⟨v, e', q.mono x⟩⟩
theorem RelX.mono (x : Stp r H r' H') {e : Exc} {c : Value} {d : Option Addr} (h : RelX K mg r H e c d) : RelX K mg r' H' e c d := by
  cases h with
  | own0 hc => exact .own0 hc
  | own hc hd q => exact .own hc (x.xd _ _ hd) (q.mono x)
  | blt hm => exact .blt hm
theorem RelDs.length {ds : List D} {vs : List V} (h : RelDs K mg r H ds vs) : ds.length = vs.length := by
  match ds, vs, h with
  | _, _, .nil => rfl
  | _, _, .cons _ q => simp [q.length]
theorem RelDs.get : ∀ {ds : List D} {vs : List V} {i : Nat} {d : D}, RelDs K mg r H ds vs → ds[i]? = some d → ∃ v, vs[i]? = some v ∧ RelD K mg r H d v
  | _, _, _, _, .nil, e => by simp at e
  | _, _, 0, _, .cons h _, e => by simp at e; subst e; exact ⟨_, rfl, h⟩
  | _, _, i + 1, _, .cons _ q, e => by
    obtain ⟨v, h1, h2⟩ := RelDs.get (i := i) q (by simpa using e)
    exact ⟨v, by simpa using h1, h2⟩
theorem RelDs.append : ∀ {ds es : List D} {vs ws : List V}, RelDs K mg r H ds vs → RelDs K mg r H es ws → RelDs K mg r H (ds ++ es) (vs ++ ws)
  | _, _, _, _, .nil, s => s
  | _, _, _, _, .cons h q, s => .cons h (RelDs.append q s)
/-- what may stand at a cell's address -/
def isCell : HO → Bool
  | .tup _ | .xd _ | .own _ => false
  | _ => true
theorem RelO.cell {o : O} {a : Addr} (h : RelO K mg r H o a) : ∃ u, H a = some u ∧ isCell u = true := by
  cases h with
  | lst h _ => exact ⟨_, h, rfl⟩
  | frz h _ => exact ⟨_, h, rfl⟩
  | ins h _ _ _ => exact ⟨_, h, rfl⟩
theorem Sim.cell_at {S : Sto} (x : Sim K mg r H S) {a : Addr} (h : a ∈ r) : ∃ u, H a = some u ∧ isCell u = true := by
  obtain ⟨n, hn⟩ := List.mem_iff_getElem?.mp h
  have hl : n < r.length := (List.getElem?_eq_some_iff.mp hn).1
  rw [x.len] at hl
  exact (x.obj n S[n] a (List.getElem?_eq_getElem hl) hn).cell
theorem Sim.mem_some {S : Sto} (x : Sim K mg r H S) {a : Addr} (h : a ∈ r) : ∃ o, H a = some o :=
  let ⟨u, e, _⟩ := x.cell_at h
  ⟨u, e⟩
theorem Sim.not_cell {S : Sto} (x : Sim K mg r H S) {a : Addr} {o : HO} (h : H a = some o) (c : isCell o = false) : a ∉ r := fun q => by
  obtain ⟨u, e, d⟩ := x.cell_at q
  rw [h] at e; cases e
  rw [c] at d; cases d
theorem Sim.fresh {S : Sto} (x : Sim K mg r H S) {a : Addr} (h : H a = none) : a ∉ r := fun q => by
  obtain ⟨o, e⟩ := x.mem_some q
  rw [h] at e; cases e
/-- a tuple is no cell -/
theorem Sim.no_tup {S : Sto} (x : Sim K mg r H S) {a : Addr} {xs : List V} (h : H a = some (.tup xs)) : a ∉ r := x.not_cell h rfl
theorem Sim.no_xd {S : Sto} (x : Sim K mg r H S) {a : Addr} (q : a ∈ r) (xs : List (Str × V)) : H a ≠ some (.xd xs) := fun h => x.not_cell h rfl q
theorem Sim.no_own {S : Sto} (x : Sim K mg r H S) {a : Addr} (q : a ∈ r) (c : Addr) : H a ≠ some (.own c) := fun h => x.not_cell h rfl q
theorem RelO.mono' (x : Wk r H r' H') {o : O} {a : Addr} (h : RelO K mg r H o a) (e : H' a = H a) (ed : ∀ dx, H dx = some (.own a) → H' dx = some (.own a)) : RelO K mg r' H' o a := by
  cases h with
  | lst h q => exact .lst (by rw [e]; exact h) (q.monoW x)
  | frz h q => exact .frz (by rw [e]; exact h) (q.monoW x)
  | ins h hd hc q => exact .ins (by rw [e]; exact h) (ed _ hd) hc (q.monoW x)
/-- laying a new thing that is no cell -/
theorem Stp.laid {p : Addr} {o : HO} (n : H p = none) : Stp r H r (upd H p o) :=
  ⟨⟨fun _ _ h => h, fun a xs h => by rw [upd_ne (ne_of_none h n)]; exact h, fun a u v h => by rw [upd_ne (ne_of_none h n)]; exact h, fun a fs h => by rw [upd_ne (ne_of_none h n)]; exact h⟩,
    fun _ h q => absurd h q, fun a u h _ => by rw [upd_ne (ne_of_none h n)]; exact h⟩
theorem Sim.laid {S : Sto} {p : Addr} {o : HO} (x : Sim K mg r H S) (n : H p = none) : Sim K mg r (upd H p o) S :=
  ⟨x.len, x.nd, fun i ob a h1 h2 => (x.obj i ob a h1 h2).mono' (Stp.laid n).toWk (upd_ne (fun e => by
      obtain ⟨u, hu⟩ := x.mem_some (List.mem_iff_getElem?.mpr ⟨i, h2⟩)
      rw [e, n] at hu; cases hu)) fun dx hd => by rw [upd_ne (ne_of_none hd n)]; exact hd⟩
/-- a new cell -/
theorem Stp.cell {p : Addr} {o : HO} (n : H p = none) : Stp r H (r ++ [p]) (upd H p o) :=
  ⟨⟨fun i a h => by
      have hl : i < r.length := (List.getElem?_eq_some_iff.mp h).1
      rw [List.getElem?_append_left hl]; exact h,
    fun a xs h => by rw [upd_ne (ne_of_none h n)]; exact h, fun a u v h => by rw [upd_ne (ne_of_none h n)]; exact h, fun a fs h => by rw [upd_ne (ne_of_none h n)]; exact h⟩,
    fun a h q => by
      rcases List.mem_append.mp h with h | h
      · exact absurd h q
      · have e : a = p := by simpa using h
        rw [e]; exact n,
    fun a u h _ => by rw [upd_ne (ne_of_none h n)]; exact h⟩
theorem Sim.cell {S : Sto} {p : Addr} {o : HO} {ob : O} (x : Sim K mg r H S) (n : H p = none) (h : RelO K mg (r ++ [p]) (upd H p o) ob p) : Sim K mg (r ++ [p]) (upd H p o) (S ++ [ob]) := by
  have hp := x.fresh n
  refine ⟨by simp [x.len], ?_, fun i oi a h1 h2 => ?_⟩
  · refine List.nodup_append.mpr ⟨x.nd, by simp, ?_⟩
    intro a ha b hb e
    have : b = p := by simpa using hb
    subst this; subst e
    exact hp ha
  · by_cases hl : i < S.length
    · have hl' : i < r.length := by rw [x.len]; exact hl
      rw [List.getElem?_append_left hl] at h1
      rw [List.getElem?_append_left hl'] at h2
      refine (x.obj i oi a h1 h2).mono' (Stp.cell n).toWk (upd_ne fun e => ?_) fun dx hd => by rw [upd_ne (ne_of_none hd n)]; exact hd
      exact hp (by rw [← e]; exact List.mem_iff_getElem?.mpr ⟨i, h2⟩)
    · have e : i = S.length := by
        have := (List.getElem?_eq_some_iff.mp h1).1
        simp at this; omega
      subst e
      rw [List.getElem?_append_right (Nat.le_refl _)] at h1
      rw [← x.len, List.getElem?_append_right (Nat.le_refl _)] at h2
      simp at h1 h2
      subst h1; subst h2
      exact h
/-- a cell is written -/
theorem Stp.write {S : Sto} {a : Addr} {o : HO} (x : Sim K mg r H S) (ha : a ∈ r) (nf : ∀ ob u, H a ≠ some (.frz ob u)) : Stp r H r (upd H a o) :=
  ⟨⟨fun _ _ h => h, fun b xs h => by rw [upd_ne (fun e => x.no_tup h (by rw [e]; exact ha))]; exact h, fun b u v h => by rw [upd_ne (fun e => nf u v (by rw [← e]; exact h))]; exact h,
    fun b fs h => by rw [upd_ne (fun e => x.no_xd ha fs (by rw [← e]; exact h))]; exact h⟩, fun _ h q => absurd h q, fun b u h q => by rw [upd_ne (fun e => q (by rw [e]; exact ha))]; exact h⟩
theorem Sim.write {S : Sto} {n : Nat} {a : Addr} {o : HO} {ob : O} (x : Sim K mg r H S) (hn : r[n]? = some a) (nf : ∀ ob u, H a ≠ some (.frz ob u)) (h : RelO K mg r (upd H a o) ob a) : Sim K mg r (upd H a o) (S.set n ob) := by
  have ha : a ∈ r := List.mem_iff_getElem?.mpr ⟨n, hn⟩
  have hl : n < r.length := (List.getElem?_eq_some_iff.mp hn).1
  refine ⟨by simp [x.len], x.nd, fun i oi b h1 h2 => ?_⟩
  by_cases hi : n = i
  · subst hi
    rw [hn] at h2; cases h2
    have hl2 : n < S.length := by rw [← x.len]; exact hl
    rw [List.getElem?_set_self hl2] at h1
    cases h1
    exact h
  · rw [List.getElem?_set_ne hi] at h1
    have hb : b ≠ a := fun e => by
      subst e
      exact hi ((List.getElem?_inj hl x.nd).mp (by rw [hn, h2]))
    refine (x.obj i oi b h1 h2).mono' (Stp.write x ha nf).toWk (upd_ne hb) fun dx hd => ?_
    rw [upd_ne (fun e => x.no_own ha b (by rw [← e]; exact hd))]
    exact hd
end
end Lw

namespace Lw
open PySem PySem.Spec PyProof.Rows L2

/-- a place of the code: the written part, the module's names, what holds besides, the wish about exceptions -/
structure Cn where
  K : PySem.W.Frag
  mg : Mg
  P : List Addr → Hp → Prop
  st : ∀ {r H r' H'}, Stp r H r' H' → P r H → P r' H'
  W : WX
abbrev Cx.cn (X : Cx) (W : WX) : Cn := ⟨X.K, X.mg, fun _ _ => True, fun _ _ => trivial, W⟩
abbrev Cn.Sm (c : Cn) (r : List Addr) (H : Hp) (S : Sto) : Prop := Sim c.K c.mg r H S
abbrev Cn.Rd (c : Cn) (r : List Addr) (H : Hp) (d : D) (v : V) : Prop := RelD c.K c.mg r H d v
abbrev Cn.Rs (c : Cn) (r : List Addr) (H : Hp) (d : List D) (v : List V) : Prop := RelDs c.K c.mg r H d v
abbrev Cn.Rx (c : Cn) (r : List Addr) (H : Hp) (e : Exc) (v : Value) (d : Option Addr) : Prop := RelX c.K c.mg r H e v d
/-- the state -/
structure At (c : Cn) (r : List Addr) (S : Sto) (sd : Sg) (s : L2.St) (H : Hp) : Prop where
  sim : c.Sm r H S
  rel : RelG c.K c.mg r H sd s
  hyp : c.P r H
theorem At.step {c : Cn} {r r' : List Addr} {S S' : Sto} {sd : Sg} {s : L2.St} {H H' : Hp} (a : At c r S sd s H) (x : Stp r H r' H') (m : c.Sm r' H' S') : At c r' S' sd s H' :=
  ⟨m, a.rel.mono x, c.st x a.hyp⟩
def GoX (c : Cn) (r : List Addr) (H : Hp) (s : L2.St) (x : QX) : Prop :=
  ∀ e S' r' H' cls dd, x e S' → Stp r H r' H' → c.Sm r' H' S' → c.Rx r' H' e cls dd → c.W cls dd s H'
def GoV (c : Cn) (r : List Addr) (H : Hp) (q : QD) (Q : VK) : Prop :=
  ∀ d S' r' v H', q d S' → Stp r H r' H' → c.Sm r' H' S' → c.Rd r' H' d v → Q v H'
section
variable {c : Cn} {r r' : List Addr} {H H' : Hp} {s : L2.St} {x : QX} {q : QD} {Q : VK}
theorem GoX.step (g : GoX c r H s x) (t : Stp r H r' H') : GoX c r' H' s x := fun e S' r2 H2 cls dd h t2 => g e S' r2 H2 cls dd h (t.trans t2)
theorem GoV.step (g : GoV c r H q Q) (t : Stp r H r' H') : GoV c r' H' q Q := fun e S' r2 H2 v h t2 => g e S' r2 H2 v h (t.trans t2)
end
def tE (c : Cn) (m : ME) : TE := fun s H Q => ∃ r S sd q x, At c r S sd s H ∧ m sd S q x ∧ GoV c r H q Q ∧ GoX c r H s x
def tA (c : Cn) (m : MA) : TA := fun s H Q => ∃ r S sd q x, At c r S sd s H ∧ m sd S q x ∧ (∀ ds S' r' vs H', q ds S' → Stp r H r' H' → c.Sm r' H' S' → c.Rs r' H' ds vs → Q vs H') ∧ GoX c r H s x
def tT (c : Cn) (m : MT) : TT := fun s H Q => ∃ r S sd q x, At c r S sd s H ∧ m sd S q x ∧ (∀ b S' r' H', q b S' → Stp r H r' H' → c.Sm r' H' S' → Q b H') ∧ GoX c r H s x
/-- what lies behind a statement -/
structure EOk (c : Cn) (r : List Addr) (H : Hp) (md : MEnds) (D : Ends) : Prop where
  nx : ∀ sd' S' r' s' H', md.nx sd' S' → Stp r H r' H' → c.Sm r' H' S' → RelG c.K c.mg r' H' sd' s' → D.nx s' H'
  rt : ∀ d S' r' v H', md.rt d S' → Stp r H r' H' → c.Sm r' H' S' → c.Rd r' H' d v → D.rt v H'
  bk : ∀ sd' S' r' s' H', md.bk sd' S' → Stp r H r' H' → c.Sm r' H' S' → RelG c.K c.mg r' H' sd' s' → D.bk s' H'
  ct : ∀ sd' S' r' s' H', md.ct sd' S' → Stp r H r' H' → c.Sm r' H' S' → RelG c.K c.mg r' H' sd' s' → D.ct s' H'
  ex : ∀ e sd' S' r' s' H' cls dd, md.ex e sd' S' → Stp r H r' H' → c.Sm r' H' S' → RelG c.K c.mg r' H' sd' s' → c.Rx r' H' e cls dd → c.W cls dd s' H'
theorem EOk.step {c : Cn} {r r' : List Addr} {H H' : Hp} {md : MEnds} {D : Ends} (e : EOk c r H md D) (t : Stp r H r' H') : EOk c r' H' md D :=
  ⟨fun a b r2 s2 H2 h t2 => e.nx a b r2 s2 H2 h (t.trans t2), fun a b r2 s2 H2 h t2 => e.rt a b r2 s2 H2 h (t.trans t2), fun a b r2 s2 H2 h t2 => e.bk a b r2 s2 H2 h (t.trans t2),
    fun a b r2 s2 H2 h t2 => e.ct a b r2 s2 H2 h (t.trans t2), fun o a b r2 s2 H2 cl dd h t2 => e.ex o a b r2 s2 H2 cl dd h (t.trans t2)⟩
def tS (c : Cn) (m : MS) : TS := fun D s H => ∃ r S sd md, At c r S sd s H ∧ m md sd S ∧ EOk c r H md D

/-! ### expressions -/
def mVar (i : Nat) : ME := fun sd S q _ => match sd[i]? with
  | some (some d) => q d S
  | _ => False
def mC (d : D) : ME := fun _ S q _ => q d S
section
variable {X : Cx} {c : Cn} {m ma mb : ME} {a b e : Expr} {es : List Expr} {mr : MA} {pos : Pos}
theorem weakE {t t' : TE} (h : PE X e t) (w : ∀ s H Q, t' s H Q → t s H Q) : PE X e t' := ⟨fun pins s o H Q I q => h.run pins s o H Q I (w _ _ _ q)⟩
theorem weakA {t t' : TA} (h : PA X es t) (w : ∀ s H Q, t' s H Q → t s H Q) : PA X es t' := ⟨fun p pins s o H Q I q => h.run p pins s o H Q I (w _ _ _ q)⟩
theorem weakT {t t' : TT} (h : PT X e t) (w : ∀ s H Q, t' s H Q → t s H Q) : PT X e t' := ⟨fun pins s o H Q I q => h.run pins s o H Q I (w _ _ _ q)⟩
theorem weakW {t t' : TT} (h : PW X e t) (w : ∀ s H Q, t' s H Q → t s H Q) : PW X e t' := ⟨fun wh pins s o H Q I q => h.run wh pins s o H Q I (w _ _ _ q)⟩
theorem weakS {st : Stmt} {t t' : TS} (h : PS X st t) (w : ∀ D s H, t' D s H → t D s H) : PS X st t' := ⟨fun pins s o H Q I q => h.run pins s o H Q I (w _ _ _ q)⟩
theorem weakSs {st : List Stmt} {t t' : TS} (h : PSs X st t) (w : ∀ D s H, t' D s H → t D s H) : PSs X st t' := ⟨fun pins s o H Q I q => h.run pins s o H Q I (w _ _ _ q)⟩

theorem me_var (i : Nat) (h : PE X e (tVar i)) : PE X e (tE c (mVar i)) := weakE h fun s H Q z => by
  obtain ⟨r, S, sd, q, x, a, hm, g, _⟩ := z
  unfold mVar at hm
  split at hm
  · rename_i d e
    obtain ⟨v, ev, rv⟩ := a.rel.at_ i d e
    exact ⟨v, ev, g d S r v H hm Stp.refl a.sim rv⟩
  · exact hm.elim
/-- a constant -/
theorem me_c {d : D} {v : V} (h : PE X e (tC v)) (rd : ∀ r H, c.Rd r H d v) : PE X e (tE c (mC d)) := weakE h fun s H Q z => by
  obtain ⟨r, S, sd, q, x, a, hm, g, _⟩ := z
  exact g d S r v H hm Stp.refl a.sim (rd r H)
theorem me_int {i : Int} {j : Nat} : PE X (.Constant (.int i) j pos) (tE c (mC (.int i))) := me_c pe_int fun _ _ => .int i
theorem me_bl {i : Bool} {j : Nat} : PE X (.Constant (.bool i) j pos) (tE c (mC (.bl i))) := me_c pe_bl fun _ _ => .bl i
theorem me_non {j : Nat} : PE X (.Constant .none j pos) (tE c (mC .non)) := me_c pe_non fun _ _ => .non
theorem me_str {z : Str} {j : Nat} : PE X (.Constant (.str z) j pos) (tE c (mC (.str z))) := me_c pe_str fun _ _ => .str z

/-! operators by values -/
abbrev MOp := D → D → Sto → QD → Prop
def rOp (c : Cn) (f : MOp) : R2 := fun v u H Q => ∃ r S d e q, c.Sm r H S ∧ c.Rd r H d v ∧ c.Rd r H e u ∧ f d e S q ∧ GoV c r H q Q
def mOp (f : MOp) (a b : ME) : ME := fun sd S q x => a sd S (fun d S1 => b sd S1 (fun e S2 => f d e S2 q) x) x
theorem op_two {R : R2} {f : MOp} (w : ∀ v u H Q, rOp c f v u H Q → R v u H Q) : ∀ s H Q, tE c (mOp f ma mb) s H Q → tOp R (tE c ma) (tE c mb) s H Q := fun s H Q z => by
  obtain ⟨r, S, sd, q, x, a, hm, g, gx⟩ := z
  refine ⟨r, S, sd, _, x, a, hm, fun d S1 r1 v H1 h1 t1 s1 rd1 => ?_, gx⟩
  refine ⟨r1, S1, sd, _, x, a.step t1 s1, h1, fun e S2 r2 u H2 h2 t2 s2 rd2 => ?_, gx.step t1⟩
  exact w _ _ _ _ ⟨r2, S2, d, e, q, s2, rd1.mono t2, rd2, h2, (g.step t1).step t2⟩
/-- a rule of the values for a place c -/
structure OpM (X : Cx) (c : Cn) (f : Value → Value → Sem Value) (g : MOp) : Prop where
  ok : ∃ R, OpR X f R ∧ ∀ v u H Q, rOp c g v u H Q → R v u H Q
theorem me_op {op : Operator} {f : MOp} (h : OpM X c (binaryOp op) f) (ha : PE X a (tE c ma)) (hb : PE X b (tE c mb)) : PE X (.BinOp a op b pos) (tE c (mOp f ma mb)) := by
  obtain ⟨R, ho, w⟩ := h.ok
  exact weakE (pe_op ho ha hb) (op_two w)
theorem me_cmp {op : CmpOp} {f : MOp} (h : OpM X c (compareOp op) f) (ha : PE X a (tE c ma)) (hb : PE X b (tE c mb)) (hm : behindInMarks op b = false) : PE X (.Compare a [op] [b] pos) (tE c (mOp f ma mb)) := by
  obtain ⟨R, ho, w⟩ := h.ok
  exact weakE (pe_cmpR ho ha hb hm) (op_two w)
/-- a test by a value that is a bool -/
def mtB (m : ME) : MT := fun sd S q x => m sd S (fun d S1 => match d with
  | .bl b => q b S1
  | _ => False) x
theorem test_of {t : TE} (w : ∀ s H Q, tE c m s H Q → t s H Q) : ∀ s H Q, tT c (mtB m) s H Q → tTest t s H Q := fun s H Q z => by
  obtain ⟨r, S, sd, q, x, a, hm, g, gx⟩ := z
  refine w _ _ _ ⟨r, S, sd, _, x, a, hm, fun d S1 r1 v H1 h1 t1 s1 rd1 => ?_, gx⟩
  cases rd1 with
  | bl b => exact ⟨b, rfl, g b S1 r1 H1 h1 t1 s1⟩
  | _ => exact h1.elim
theorem mt_cmp {op : CmpOp} {f : MOp} (h : OpM X c (compareOp op) f) (ha : PE X a (tE c ma)) (hb : PE X b (tE c mb)) (hm : behindInMarks op b = false) : PT X (.Compare a [op] [b] pos) (tT c (mtB (mOp f ma mb))) := by
  obtain ⟨R, ho, w⟩ := h.ok
  exact weakT (pt_cmpR ho ha hb hm) (test_of (op_two w))
theorem mt_val (h : PE X e (tE c m)) (he : ∀ whole, isTrue e X.env whole = (do let v ← whole; standAt e.pos; holding [v] (truthy v)) := by intro _; rfl) : PT X e (tT c (mtB m)) :=
  weakT (pt_val h he) (test_of fun _ _ _ z => z)
/-! and, or, not as tests -/
def mtAnd (a b : MT) : MT := fun sd S q x => a sd S (fun k S1 => if k = true then b sd S1 q x else q false S1) x
def mtOr (a b : MT) : MT := fun sd S q x => a sd S (fun k S1 => if k = true then q true S1 else b sd S1 q x) x
def mtNot (a : MT) : MT := fun sd S q x => a sd S (fun k S1 => q (!k) S1) x
variable {ta tb : MT} {rest : List Expr}
theorem mw_and1 (ha : PT X a (tT c ta)) : PW X (.BoolOp .And [a] pos) (tT c ta) := pw_and1 ha
theorem mw_or1 (ha : PT X a (tT c ta)) : PW X (.BoolOp .Or [a] pos) (tT c ta) := pw_or1 ha
theorem mw_and (ha : PT X a (tT c ta)) (hb : PW X (.BoolOp .And (b :: rest) pos) (tT c tb)) : PW X (.BoolOp .And (a :: b :: rest) pos) (tT c (mtAnd ta tb)) := weakW (pw_and ha hb) fun s H Q z => by
  obtain ⟨r, S, sd, q, x, a, hm, g, gx⟩ := z
  refine ⟨r, S, sd, _, x, a, hm, fun k S1 r1 H1 h1 t1 s1 => ?_, gx⟩
  cases k with
  | true => exact iteT ⟨r1, S1, sd, q, x, a.step t1 s1, h1, fun b S2 r2 H2 h2 t2 => g b S2 r2 H2 h2 (t1.trans t2), gx.step t1⟩
  | false => exact iteF (g false S1 r1 H1 h1 t1 s1)
theorem mw_or (ha : PT X a (tT c ta)) (hb : PW X (.BoolOp .Or (b :: rest) pos) (tT c tb)) : PW X (.BoolOp .Or (a :: b :: rest) pos) (tT c (mtOr ta tb)) := weakW (pw_or ha hb) fun s H Q z => by
  obtain ⟨r, S, sd, q, x, a, hm, g, gx⟩ := z
  refine ⟨r, S, sd, _, x, a, hm, fun k S1 r1 H1 h1 t1 s1 => ?_, gx⟩
  cases k with
  | false => exact iteF ⟨r1, S1, sd, q, x, a.step t1 s1, h1, fun b S2 r2 H2 h2 t2 => g b S2 r2 H2 h2 (t1.trans t2), gx.step t1⟩
  | true => exact iteT (g true S1 r1 H1 h1 t1 s1)
theorem mt_not (ha : PT X a (tT c ta)) : PT X (.UnaryOp .Not a pos) (tT c (mtNot ta)) := weakT (pt_not ha) fun s H Q z => by
  obtain ⟨r, S, sd, q, x, a, hm, g, gx⟩ := z
  exact ⟨r, S, sd, _, x, a, hm, fun k S1 r1 H1 h1 t1 s1 => g (!k) S1 r1 H1 h1 t1 s1, gx⟩
/-! the same as values -/
def mAnd (a b : ME) : ME := fun sd S q x => a sd S (fun d S1 => match d with
  | .bl k => if k = true then b sd S1 q x else q (.bl false) S1
  | _ => False) x
def mOr (a b : ME) : ME := fun sd S q x => a sd S (fun d S1 => match d with
  | .bl k => if k = true then q (.bl true) S1 else b sd S1 q x
  | _ => False) x
def mNot (a : MT) : ME := fun sd S q x => a sd S (fun k S1 => q (.bl (!k)) S1) x
def mIf (t : MT) (a b : ME) : ME := fun sd S q x => t sd S (fun k S1 => if k = true then a sd S1 q x else b sd S1 q x) x
theorem me_one {op : BoolOp} (ha : PE X a (tE c ma)) : PE X (.BoolOp op [a] pos) (tE c ma) := pe_one ha
theorem me_and (ha : PE X a (tE c ma)) (hb : PE X (.BoolOp .And (b :: rest) pos) (tE c mb)) : PE X (.BoolOp .And (a :: b :: rest) pos) (tE c (mAnd ma mb)) := weakE (pe_and ha hb) fun s H Q z => by
  obtain ⟨r, S, sd, q, x, a, hm, g, gx⟩ := z
  refine ⟨r, S, sd, _, x, a, hm, fun d S1 r1 v H1 h1 t1 s1 rd => ?_, gx⟩
  cases rd with
  | bl k =>
    refine ⟨k, rfl, ?_⟩
    cases k with
    | true => exact iteT ⟨r1, S1, sd, q, x, a.step t1 s1, h1, g.step t1, gx.step t1⟩
    | false => exact iteF (g _ S1 r1 _ H1 h1 t1 s1 (.bl false))
  | _ => exact h1.elim
theorem me_or (ha : PE X a (tE c ma)) (hb : PE X (.BoolOp .Or (b :: rest) pos) (tE c mb)) : PE X (.BoolOp .Or (a :: b :: rest) pos) (tE c (mOr ma mb)) := weakE (pe_or ha hb) fun s H Q z => by
  obtain ⟨r, S, sd, q, x, a, hm, g, gx⟩ := z
  refine ⟨r, S, sd, _, x, a, hm, fun d S1 r1 v H1 h1 t1 s1 rd => ?_, gx⟩
  cases rd with
  | bl k =>
    refine ⟨k, rfl, ?_⟩
    cases k with
    | false => exact iteF ⟨r1, S1, sd, q, x, a.step t1 s1, h1, g.step t1, gx.step t1⟩
    | true => exact iteT (g _ S1 r1 _ H1 h1 t1 s1 (.bl true))
  | _ => exact h1.elim
theorem me_ifx {t : Expr} (ht : PT X t (tT c ta)) (ha : PE X a (tE c ma)) (hb : PE X b (tE c mb)) : PE X (.IfExp t a b pos) (tE c (mIf ta ma mb)) := weakE (pe_ifExp ht ha hb) fun s H Q z => by
  obtain ⟨r, S, sd, q, x, a, hm, g, gx⟩ := z
  refine ⟨r, S, sd, _, x, a, hm, fun k S1 r1 H1 h1 t1 s1 => ?_, gx⟩
  cases k with
  | true => exact iteT ⟨r1, S1, sd, q, x, a.step t1 s1, h1, g.step t1, gx.step t1⟩
  | false => exact iteF ⟨r1, S1, sd, q, x, a.step t1 s1, h1, g.step t1, gx.step t1⟩
/-! argument lists, displays -/
def maNil : MA := fun _ S q _ => q [] S
def maCons (a : ME) (b : MA) : MA := fun sd S q x => a sd S (fun d S1 => b sd S1 (fun ds S2 => q (d :: ds) S2) x) x
theorem ma_nil : PA X [] (tA c maNil) := weakA pa_nil fun s H Q z => by
  obtain ⟨r, S, sd, q, x, a, hm, g, gx⟩ := z
  exact g [] S r [] H hm Stp.refl a.sim .nil
theorem ma_cons (ha : PE X e (tE c m)) (hr : PA X es (tA c mr)) (hs : starEach (e :: es) X.env = (false, eval e X.env) :: starEach es X.env := by rfl) : PA X (e :: es) (tA c (maCons m mr)) := weakA (pa_cons ha hr hs) fun s H Q z => by
  obtain ⟨r, S, sd, q, x, a, hm, g, gx⟩ := z
  refine ⟨r, S, sd, _, x, a, hm, fun d S1 r1 v H1 h1 t1 s1 rd1 => ?_, gx⟩
  exact ⟨r1, S1, sd, _, x, a.step t1 s1, h1, fun ds S2 r2 vs H2 h2 t2 s2 rd2 => g (d :: ds) S2 r2 (v :: vs) H2 h2 (t1.trans t2) s2 (.cons (rd1.mono t2) rd2), gx.step t1⟩
def mTup (m : MA) : ME := fun sd S q x => m sd S (fun ds S1 => ds.length ≤ sizeLine ∧ q (.tup ds) S1) x
def mLst (m : MA) : ME := fun sd S q x => m sd S (fun ds S1 => ds.length ≤ sizeLine ∧ q (.ref S1.length) (S1 ++ [.lst ds])) x
theorem me_tup {x1} (h : PA X es (tA c mr)) : PE X (.Tuple es x1 pos) (tE c (mTup mr)) := weakE (pe_tup h) fun s H Q z => by
  obtain ⟨r, S, sd, q, x, a, hm, g, gx⟩ := z
  refine ⟨r, S, sd, _, x, a, hm, fun ds S1 r1 vs H1 h1 t1 s1 rd1 => ?_, gx⟩
  refine ⟨by rw [← rd1.length]; exact h1.1, fun p np => ?_⟩
  have t2 : Stp r1 H1 r1 (upd H1 p (.tup vs)) := Stp.laid np
  exact g _ S1 r1 _ _ h1.2 (t1.trans t2) (s1.laid np) (.tup (.inl (.inl upd_same)) (rd1.mono t2))
theorem me_lst (h : PA X es (tA c mr)) : PE X (.List es pos) (tE c (mLst mr)) := weakE (pe_lst h) fun s H Q z => by
  obtain ⟨r, S, sd, q, x, a, hm, g, gx⟩ := z
  refine ⟨r, S, sd, _, x, a, hm, fun ds S1 r1 vs H1 h1 t1 s1 rd1 => ?_, gx⟩
  refine ⟨by rw [← rd1.length]; exact h1.1, fun p np => ?_⟩
  have t2 : Stp r1 H1 (r1 ++ [p]) (upd H1 p (.lst vs)) := Stp.cell np
  exact g _ _ (r1 ++ [p]) _ _ h1.2 (t1.trans t2) (s1.cell np (.lst upd_same (rd1.mono t2))) (.ref (by rw [← s1.len, List.getElem?_append_right (Nat.le_refl _)]; simp))
end
end Lw

namespace Lw
open PySem PySem.Spec PyProof.Rows L2

/-! ### statements -/
def mNext : MS := fun md sd S => md.nx sd S
def mSeq (a b : MS) : MS := fun md sd S => a { md with nx := b md } sd S
def mExpr (m : ME) : MS := fun md sd S => m sd S (fun _ S1 => md.nx sd S1) (fun e S1 => md.ex e sd S1)
def mRet (m : ME) : MS := fun md sd S => m sd S md.rt (fun e S1 => md.ex e sd S1)
def mRetN : MS := fun md _ S => md.rt .non S
def mIfS (t : MT) (a b : MS) : MS := fun md sd S => t sd S (fun k S1 => if k = true then a md sd S1 else b md sd S1) (fun e S1 => md.ex e sd S1)
def mBreak : MS := fun md sd S => md.bk sd S
def mCont : MS := fun md sd S => md.ct sd S
/-- targets -/
abbrev MG := D → Sg → Sto → (Sg → Sto → Prop) → Prop
abbrev MGs := List D → Sg → Sto → (Sg → Sto → Prop) → Prop
def gmName (i : Nat) : MG := fun d sd S k => k (sd.set i (some d)) S
def gmNil : MGs := fun ds sd S k => match ds with
  | [] => k sd S
  | _ => False
def gmCons (g : MG) (h : MGs) : MGs := fun ds sd S k => match ds with
  | d :: es => g d sd S (fun sd1 S1 => h es sd1 S1 k)
  | _ => False
def gmTup (n : Nat) (h : MGs) : MG := fun d sd S k => match d with
  | .tup ds => ds.length = n ∧ h ds sd S k
  | _ => False
def mAsg (m : ME) (g : MG) : MS := fun md sd S => m sd S (fun d S1 => g d sd S1 md.nx) (fun e S1 => md.ex e sd S1)
/-- x, y = e, f: two local names -/
def mPar (i j : Nat) (a b : ME) : MS := fun md sd S => a sd S (fun d S1 => b sd S1 (fun e S2 => md.nx ((sd.set i (some d)).set j (some e)) S2) (fun e S1 => md.ex e sd S1)) (fun e S1 => md.ex e sd S1)

section
variable {X : Cx} {c : Cn} {m ma mb : ME} {a b e tg : Expr} {es : List Expr} {mr : MA} {pos : Pos} {st : Stmt} {rest sa sb : List Stmt} {p q : MS} {t : MT}
theorem goX_of {r : List Addr} {H : Hp} {md : MEnds} {D : Ends} {sd : Sg} {s : L2.St} (g : EOk c r H md D) (rl : RelG c.K c.mg r H sd s) : GoX c r H s (fun e S1 => md.ex e sd S1) :=
  fun e S' r' H' cls dd h t sm rx => g.ex e sd S' r' s H' cls dd h t sm (rl.mono t) rx
theorem mss_nil : PSs X [] (tS c mNext) := weakSs pss_nil fun D s H z => by
  obtain ⟨r, S, sd, md, a, hm, g⟩ := z
  exact g.nx sd S r s H hm Stp.refl a.sim a.rel
theorem mss_cons (h1 : PS X st (tS c p)) (h2 : PSs X rest (tS c q)) : PSs X (st :: rest) (tS c (mSeq p q)) := weakSs (pss_cons h1 h2) fun D s H z => by
  obtain ⟨r, S, sd, md, a, hm, g⟩ := z
  refine ⟨r, S, sd, { md with nx := q md }, a, hm, ⟨fun sd1 S1 r1 s1 H1 h t sm rl => ?_, g.rt, g.bk, g.ct, g.ex⟩⟩
  exact ⟨r1, S1, sd1, md, ⟨sm, rl, c.st t a.hyp⟩, h, g.step t⟩
theorem mss_one (h1 : PS X st (tS c p)) : PSs X [st] (tS c p) := pss_one h1
theorem ms_pass : PS X (.Pass pos) (tS c mNext) := weakS ps_pass fun D s H z => by
  obtain ⟨r, S, sd, md, a, hm, g⟩ := z
  exact g.nx sd S r s H hm Stp.refl a.sim a.rel
theorem ms_break : PS X (.Break pos) (tS c mBreak) := weakS ps_break fun D s H z => by
  obtain ⟨r, S, sd, md, a, hm, g⟩ := z
  exact g.bk sd S r s H hm Stp.refl a.sim a.rel
theorem ms_cont : PS X (.Continue pos) (tS c mCont) := weakS ps_continue fun D s H z => by
  obtain ⟨r, S, sd, md, a, hm, g⟩ := z
  exact g.ct sd S r s H hm Stp.refl a.sim a.rel
theorem ms_never : PS X st (tS c fun _ _ _ => False) := weakS ps_never fun D s H z => by
  obtain ⟨r, S, sd, md, a, hm, g⟩ := z
  exact hm.elim
theorem ms_expr (he : PE X e (tE c m)) (hs : swapsWith e none pos.line X.env = pure false := by rfl) : PS X (.Expr e pos) (tS c (mExpr m)) := weakS (ps_expr he hs) fun D s H z => by
  obtain ⟨r, S, sd, md, a, hm, g⟩ := z
  exact ⟨r, S, sd, _, _, a, hm, fun d S1 r1 v H1 h t sm rd => g.nx sd S1 r1 s H1 h t sm (a.rel.mono t), goX_of g a.rel⟩
theorem ms_ret (he : PE X e (tE c m)) : PS X (.Return (some e) pos) (tS c (mRet m)) := weakS (ps_ret he) fun D s H z => by
  obtain ⟨r, S, sd, md, a, hm, g⟩ := z
  exact ⟨r, S, sd, _, _, a, hm, g.rt, goX_of g a.rel⟩
theorem ms_retN : PS X (.Return none pos) (tS c mRetN) := weakS ps_retN fun D s H z => by
  obtain ⟨r, S, sd, md, a, hm, g⟩ := z
  exact g.rt .non S r .non H hm Stp.refl a.sim .non
theorem ms_if (ht : PT X e (tT c t)) (ha : PSs X sa (tS c p)) (hb : PSs X sb (tS c q)) : PS X (.If e sa sb pos) (tS c (mIfS t p q)) := weakS (ps_if ht ha hb) fun D s H z => by
  obtain ⟨r, S, sd, md, a, hm, g⟩ := z
  refine ⟨r, S, sd, _, _, a, hm, fun k S1 r1 H1 h t sm => ?_, goX_of g a.rel⟩
  cases k with
  | true => exact iteT ⟨r1, S1, sd, md, a.step t sm, h, g.step t⟩
  | false => exact iteF ⟨r1, S1, sd, md, a.step t sm, h, g.step t⟩
/-! targets -/
def tGm (c : Cn) (g : MG) : TG := fun v s H Q => ∃ r S sd d k, At c r S sd s H ∧ c.Rd r H d v ∧ g d sd S k ∧ ∀ sd' S' r' s' H', k sd' S' → Stp r H r' H' → c.Sm r' H' S' → RelG c.K c.mg r' H' sd' s' → Q s' H'
def tGms (c : Cn) (g : MGs) : TGs := fun v s H Q => ∃ r S sd d k, At c r S sd s H ∧ c.Rs r H d v ∧ g d sd S k ∧ ∀ sd' S' r' s' H', k sd' S' → Stp r H r' H' → c.Sm r' H' S' → RelG c.K c.mg r' H' sd' s' → Q s' H'
theorem weakG {t t' : TG} (h : PG X e t) (w : ∀ v s H Q, t' v s H Q → t v s H Q) : PG X e t' := ⟨fun pins s o H x u Q I r q => h.run pins s o H x u Q I r (w _ _ _ _ q)⟩
theorem weakGs {t t' : TGs} (h : PGs X es t) (w : ∀ v s H Q, t' v s H Q → t v s H Q) : PGs X es t' := ⟨fun pins s o H x u Q I r q => h.run pins s o H x u Q I r (w _ _ _ _ q)⟩
theorem RelG.put {K : PySem.W.Frag} {mg : Mg} {r : List Addr} {H : Hp} {sd : Sg} {s : L2.St} {i : Nat} {d : D} {v : V} (g : RelG K mg r H sd s) (rd : RelD K mg r H d v) : RelG K mg r H (sd.set i (some d)) (s.set i (some v)) := by
  refine ⟨by simp [g.len], fun j e h => ?_⟩
  by_cases hj : i = j
  · subst hj
    by_cases hl : i < sd.length
    · rw [List.getElem?_set_self hl] at h
      cases h
      exact ⟨v, List.getElem?_set_self (by rw [← g.len]; exact hl), rd⟩
    · rw [List.getElem?_eq_none (by simpa using hl)] at h; cases h
  · rw [List.getElem?_set_ne hj] at h
    obtain ⟨u, hu, ru⟩ := g.at_ j e h
    exact ⟨u, by rw [List.getElem?_set_ne hj]; exact hu, ru⟩
theorem gm_name {i : Nat} (h : PG X e (gName i)) : PG X e (tGm c (gmName i)) := weakG h fun v s H Q z => by
  obtain ⟨r, S, sd, d, k, a, rd, hg, n⟩ := z
  exact n _ S r _ H hg Stp.refl a.sim (a.rel.put rd)
theorem gms_nil : PGs X [] (tGms c gmNil) := weakGs pgs_nil fun v s H Q z => by
  obtain ⟨r, S, sd, d, k, a, rd, hg, n⟩ := z
  cases rd with
  | nil => exact ⟨rfl, n sd S r s H hg Stp.refl a.sim a.rel⟩
  | cons _ _ => exact hg.elim
theorem gms_cons {g : MG} {h : MGs} (h1 : PG X e (tGm c g)) (h2 : PGs X es (tGms c h)) (hs : (assignEach (e :: es) X.env).map (·.2) = assign e X.env :: (assignEach es X.env).map (·.2) := by rfl) : PGs X (e :: es) (tGms c (gmCons g h)) := weakGs (pgs_cons h1 h2 hs) fun v s H Q z => by
  obtain ⟨r, S, sd, d, k, a, rd, hg, n⟩ := z
  cases rd with
  | nil => exact hg.elim
  | cons r1 r2 =>
    refine ⟨_, _, rfl, r, S, sd, _, _, a, r1, hg, fun sd1 S1 ra s1 H1 h t sm rl => ?_⟩
    exact ⟨ra, S1, sd1, _, k, ⟨sm, rl, c.st t a.hyp⟩, r2.mono t, h, fun sd2 S2 rb s2 H2 h t2 => n sd2 S2 rb s2 H2 h (t.trans t2)⟩
theorem gm_tup {k : Nat} {n : Nat} {h : MGs} (hK : c.K = X.K) (hc : X.calm = true) (hs : PGs X es (tGms c h)) (hp : PG X (.Tuple es k pos) (gTup X.K n (tGms c h))) : PG X (.Tuple es k pos) (tGm c (gmTup n h)) := weakG hp fun v s H Q z => by
  obtain ⟨r, S, sd, d, kk, a, rd, hg, nn⟩ := z
  cases rd with
  | tup hq rs => exact ⟨_, _, rfl, by rw [← hK]; exact hq, by rw [← rs.length]; exact hg.1, r, S, sd, _, kk, a, rs, hg.2, nn⟩
  | _ => exact hg.elim
theorem ms_asg {g : MG} (he : PE X e (tE c m)) (hg : PG X tg (tGm c g)) (hs : swapsWithSole [tg] e pos.line X.env = pure false := by rfl) (hw : swappedStores [tg] e X.env = pure none := by rfl) (ha : (assignEach [tg] X.env).map (·.2) = [assign tg X.env] := by rfl) : PS X (.Assign [tg] e pos) (tS c (mAsg m g)) := weakS (ps_asg he hg hs hw ha) fun D s H z => by
  obtain ⟨r, S, sd, md, a, hm, g⟩ := z
  exact ⟨r, S, sd, _, _, a, hm, fun d S1 r1 v H1 h t sm rd => ⟨r1, S1, sd, d, md.nx, a.step t sm, rd, h, (g.step t).nx⟩, goX_of g a.rel⟩
theorem ms_set {i : Nat} {x : Str} {pos' : Pos} (hN : X.N.Nodup) (hi : X.N[i]? = some x) (hx : Loc X.env.scope x) (he : PE X e (tE c m)) (hs : swapsWith e (some (.Name x pos')) pos.line X.env = pure false := by rfl) (hf : X.fn x = true ∨ X.env.scope.names.lookup x = some .local := by first | exact .inl rfl | exact .inr rfl | assumption) :
    PS X (.Assign [.Name x pos'] e pos) (tS c (mAsg m (gmName i))) := weakS (ps_set hN hi hx he hs hf) fun D s H z => by
  obtain ⟨r, S, sd, md, a, hm, g⟩ := z
  exact ⟨r, S, sd, _, _, a, hm, fun d S1 r1 v H1 h t sm rd => g.nx _ S1 r1 _ H1 h t sm ((a.rel.mono t).put rd), goX_of g a.rel⟩
theorem ms_par {i j : Nat} {tgs : List Expr} {k1 : Nat} {px : Pos} {vx : Expr} (h : PS X (.Assign [.Tuple tgs k1 px] vx pos) (tPar i j (tCons (tE c ma) (tCons (tE c mb) tNil)))) : PS X (.Assign [.Tuple tgs k1 px] vx pos) (tS c (mPar i j ma mb)) := weakS h fun D s H z => by
  obtain ⟨r, S, sd, md, a, hm, g⟩ := z
  refine ⟨r, S, sd, _, _, a, hm, fun d S1 r1 v H1 h t sm rd => ?_, goX_of g a.rel⟩
  have g1 := g.step t
  refine ⟨r1, S1, sd, _, _, a.step t sm, h, fun e S2 r2 u H2 h2 t2 sm2 rd2 => ?_, goX_of g1 (a.rel.mono t)⟩
  exact ⟨v, u, rfl, g.nx _ S2 r2 _ H2 h2 (t.trans t2) sm2 (((a.rel.mono (t.trans t2)).put (rd.mono t2)).put rd2)⟩
/-- x op= e at a name -/
def mAug (i : Nat) (f : MOp) (m : ME) : MS := fun md sd S => match sd[i]? with
  | some (some d) => m sd S (fun e S1 => f d e S1 (fun o S2 => md.nx (sd.set i (some o)) S2)) (fun e S1 => md.ex e sd S1)
  | _ => False
theorem ms_aug {i : Nat} {x : Str} {op : Operator} {f : MOp} {pos' : Pos} (h : OpM X c (inplaceOp op) f) (hN : X.N.Nodup) (hi : X.N[i]? = some x) (hx : Loc X.env.scope x) (he : PE X e (tE c m))
    (hst : ∀ {R : R2}, OpR X (inplaceOp op) R → PS X (.AugAssign (.Name x pos') op e pos) (tAug i (tE c m) R)) :
    PS X (.AugAssign (.Name x pos') op e pos) (tS c (mAug i f m)) := by
  obtain ⟨R, ho, w⟩ := h.ok
  refine weakS (hst ho) fun D s H z => ?_
  obtain ⟨r, S, sd, md, a, hm, g⟩ := z
  unfold mAug at hm
  split at hm
  · rename_i d ed
    obtain ⟨v, ev, rv⟩ := a.rel.at_ i d ed
    refine ⟨v, ev, r, S, sd, _, _, a, hm, fun e S1 r1 u H1 h t sm rd => ?_, goX_of g a.rel⟩
    exact w _ _ _ _ ⟨r1, S1, d, e, _, sm, rv.mono t, rd, h, fun o S2 r2 y H2 h2 t2 sm2 rd2 => g.nx _ S2 r2 _ H2 h2 (t.trans t2) sm2 ((a.rel.mono (t.trans t2)).put rd2)⟩
  · exact hm.elim
/-- while -/
def whN (t : MT) (b : MS) : Nat → MS
  | 0 => fun _ _ _ => False
  | n + 1 => fun md sd S => t sd S (fun k S1 => if k = true then b { md with nx := whN t b n md, ct := whN t b n md, bk := md.nx } sd S1 else md.nx sd S1) (fun e S1 => md.ex e sd S1)
def mWhile (t : MT) (b : MS) : MS := fun md sd S => ∃ n, whN t b n md sd S
theorem ms_while (hp : PassesOwn (model X.prog X.w) X.A X.env X.xe) (ht : PT X e (tT c t)) (hb : PSs X sa (tS c p)) : PS X (.While e sa [] pos) (tS c (mWhile t p)) := weakS (ps_while hp ht hb) fun D s H z => by
  obtain ⟨r, S, sd, md, a, ⟨n, hm⟩, g⟩ := z
  refine ⟨fun m s' H' => ∃ r S sd, At c r S sd s' H' ∧ whN t p m md sd S ∧ EOk c r H' md D, ⟨n, r, S, sd, a, hm, g⟩, fun m s1 H1 w => ?_⟩
  obtain ⟨r1, S1, sd1, a1, h1, g1⟩ := w
  cases m with
  | zero => exact h1.elim
  | succ m =>
    refine ⟨r1, S1, sd1, _, _, a1, h1, fun k S2 r2 H2 h2 t2 sm2 => ?_, goX_of g1 a1.rel⟩
    cases k with
    | false => exact iteF (g1.nx sd1 S2 r2 s1 H2 h2 t2 sm2 (a1.rel.mono t2))
    | true =>
      refine iteT ⟨fun s' H' => ∃ r S sd, At c r S sd s' H' ∧ whN t p m md sd S ∧ EOk c r H' md D, fun s' H' w => ⟨m, Nat.lt_succ_self m, w⟩, ?_⟩
      have g2 := g1.step t2
      refine ⟨r2, S2, sd1, { md with nx := whN t p m md, ct := whN t p m md, bk := md.nx }, a1.step t2 sm2, h2, ⟨fun sd3 S3 r3 s3 H3 h3 t3 sm3 rl3 => ?_, g2.rt, g2.nx, fun sd3 S3 r3 s3 H3 h3 t3 sm3 rl3 => ?_, g2.ex⟩⟩
      · exact ⟨r3, S3, sd3, ⟨sm3, rl3, c.st t3 (c.st t2 a1.hyp)⟩, h3, g2.step t3⟩
      · exact ⟨r3, S3, sd3, ⟨sm3, rl3, c.st t3 (c.st t2 a1.hyp)⟩, h3, g2.step t3⟩
end

/-! ### defs -/
abbrev Spec := List D → Sto → QD → QX → Prop
/-- a def's promise where nothing is being shown by repr (so repr may be called) -/
structure FnG (P : Program) (w : World) (K : PySem.W.Frag) (mg : Mg) (base : Heap) (k : Nat) (f : Addr) (fd : FuncData) (ps : List Str) (sp : Sp) : Prop where
  len : ∀ vs H Q E, sp vs H Q E → vs.length = ps.length
  run : ∀ (A : Around) (outer : List Env) (s : Shared) (H : Hp) (args : Args) (us : List Value) (vs : List V) (Q : VK) (E : XK), Room k A → A.guards = some [] →
    Env0 P w K mg base A outer s H → BindsTo s fd args (ps.zip us) → Vals vs us → sp vs H Q E → codeAny (model P w) A (.call (.ref f) args) (CR (L2.CX P w) outer P w H s Q E) s
theorem FnG.mono {P : Program} {w : World} {K : PySem.W.Frag} {mg : Mg} {base : Heap} {j k : Nat} {f : Addr} {fd : FuncData} {ps : List Str} {sp : Sp} (F : FnG P w K mg base j f fd ps sp) (h : j ≤ k) : FnG P w K mg base k f fd ps sp :=
  ⟨F.len, fun A outer s H args us vs Q E hr => F.run A outer s H args us vs Q E (hr.mono h)⟩
/-- the promise that a def does what the transformer u says -/
def spOf (K : PySem.W.Frag) (mg : Mg) (u : Spec) : Sp := fun vs H Q E => ∃ r S ds q x, Sim K mg r H S ∧ RelDs K mg r H ds vs ∧ u ds S q x ∧
  (∀ d S' r' v H', q d S' → Stp r H r' H' → Sim K mg r' H' S' → RelD K mg r' H' d v → Q v H') ∧ ∀ e S' r' H' cls dd, x e S' → Stp r H r' H' → Sim K mg r' H' S' → RelX K mg r' H' e cls dd → E cls dd H'
/-- what a body with n parameters and N names does -/
def body (n N : Nat) (m : MS) : Spec := fun ds S q x => ds.length = n ∧ m { nx := fun _ S' => q .non S', rt := q, bk := fun _ _ => False, ct := fun _ _ => False, ex := fun e _ S' => x e S' } (ds.map some ++ List.replicate (N - ds.length) none) S
theorem relG_start {K : PySem.W.Frag} {mg : Mg} {r : List Addr} {H : Hp} {N : List Str} {ds : List D} {vs : List V} (h : RelDs K mg r H ds vs) : RelG K mg r H (ds.map some ++ List.replicate (N.length - ds.length) none) (L2.start N vs) := by
  have hl := h.length
  refine ⟨by unfold L2.start; simp [hl], fun i d e => ?_⟩
  by_cases hi : i < ds.length
  · rw [List.getElem?_append_left (by simpa using hi), List.getElem?_map] at e
    cases q : ds[i]? with
    | none => rw [q] at e; cases e
    | some d' =>
      rw [q] at e
      cases e
      obtain ⟨v, hv, rv⟩ := h.get q
      refine ⟨v, ?_, rv⟩
      unfold L2.start
      rw [List.getElem?_append_left (by simpa [← hl] using hi), List.getElem?_map, hv]
      rfl
  · rw [List.getElem?_append_right (by simpa using hi)] at e
    have z := List.mem_of_getElem? e
    rw [List.mem_replicate] at z
    cases z.2
section
variable {P : Program} {w : World} {K : PySem.W.Frag} {mg : Mg} {base : Heap} {x qual : Str} {params : Arguments} {bd : List Stmt} {scope : Scope} {dvs : List V} {kws : List (Str × V)} {f : Addr} {fd : FuncData}
/-- the rule for a def -/
theorem okD {N ps : List Str} {k n NN : Nat} {m : MS} (F : FunD K x qual params bd scope dvs kws f fd) (S : FnScope N ps scope) (hn : ps.length = n) (hN : N.length = NN)
    (hb : ∀ (cdv : Value) (A : Around) (outer : List Env) (s : Shared) (H : Hp) (E : XK), Room k (A.deeper (envOfC qual scope s.heap.objs.size f cdv)) → A.guards = some [] →
      PSs (cxOf (L2.CX P w) P w K mg base N qual scope f cdv A outer s H E) bd (tS (Cx.cn (cxOf (L2.CX P w) P w K mg base N qual scope f cdv A outer s H E) (fun cls d _ H' => E cls d H')) m)) :
    FnG P w K mg base (k + 1) f fd ps (spOf K mg (body n NN m)) := by
  subst hn hN
  obtain ⟨oc, od, dV, kV, doc, pm, an, cdv, ct, osl, efd, lk, hcd, _, _⟩ := F.ex
  subst efd
  have len : ∀ vs H Q E, spOf K mg (body ps.length N.length m) vs H Q E → vs.length = ps.length := fun vs H Q E h => by
    obtain ⟨_, _, ds, _, _, _, rd, hu, _⟩ := h
    rw [← rd.length]
    exact hu.1
  refine ⟨len, fun A outer s H args us vs Q E hr hg e0 hbi rv hsp => ?_⟩
  have KX : K.In s.heap := e0.mod.kin.keeps fun b o e => (e0.bs b o e).1
  have lim : s.heap.NoLimit := e0.mod.nolimit.keeps fun b o e => (e0.bs b o e).1
  refine codeAny_call_function hr.depth (KX _ _ lk) rfl S.co S.gen rfl (PySem.W.codeRec_of KX hcd) (hbi _ _ _ _ ?_)
  refine wpAny_newFunctionEnv_cells S.kind (fun y hy => ?_) fun env he s1 xx => ?_
  · obtain ⟨n, v⟩ := y
    have hm : n ∈ ps := (List.of_mem_zip hy).1
    exact (S.par n hm).elim (fun q => .inl q) fun q => .inr ⟨q, PySem.W.cellsFrom_some _ _ _ (.inl q)⟩
  subst he
  refine ⟨lim.keeps xx.toInCall.keep, codeAny_func ?_⟩
  have I := inv_start (CX := L2.CX P w) (E := E) S hr.hd e0 (len _ _ _ _ hsp) rv xx
  obtain ⟨r, St, ds, q, qx, sm, rd, hu, hq, hx⟩ := hsp
  have go : tS (Cx.cn (cxOf (L2.CX P w) P w K mg base N qual scope f cdv A outer s H E) (fun cls d _ H' => E cls d H')) m { nx := fun _ H' => Q .non H', rt := Q } (L2.start N vs) H :=
    ⟨r, St, _, _, ⟨sm, relG_start rd, trivial⟩, hu.2, ⟨fun sd' S' r' s' H' h t sm' _ => hq .non S' r' .non H' h t sm' .non, fun d S' r' v H' h t sm' rd' => hq d S' r' v H' h t sm' rd', fun _ _ _ _ _ h => h.elim, fun _ _ _ _ _ h => h.elim, fun e sd' S' r' s' H' cls dd h t sm' _ rx => hx e S' r' H' cls dd h t sm' rx⟩⟩
  refine wpAny_mono ((hb cdv A outer s H E (hr.deeper _) hg).run [] s1 (L2.start N vs) H _ I go) (fun fl s' hs => ?_) fun e s' hs => hs
  cases fl with
  | ret u =>
    obtain ⟨v, σ', H', J, rv', q'⟩ := hs
    exact ⟨v, H', J.os, J.bare, J.base, J.hok, rv', q'⟩
  | next =>
    obtain ⟨σ', H', J, q'⟩ := hs
    exact ⟨.non, H', J.os, J.bare, J.base, J.hok, rfl, q'⟩
  | brk =>
    obtain ⟨_, _, _, q'⟩ := hs
    exact q'.elim
  | cont =>
    obtain ⟨_, _, _, q'⟩ := hs
    exact q'.elim
end
/-! ### calls -/
/-- the callee runs, from a place X -/
theorem runG {X : Cx} {k : Nat} {f : Addr} {fd : FuncData} {ps : List Str} {sp : Sp} {W : WX} {ds us : List Value} {vs dvs : List V} {pins : List (Addr × Obj)} {σ : L2.St} {H : Hp} {s : Shared} {Q : VK}
    (F : FnG X.prog X.w X.K X.mg X.base k f fd ps sp) (tk : Takes X W) (hr : Room k X.A) (hg : X.A.guards = some []) (hb : Binds X.K fd ps ds) (hd : Vals dvs ds) (I : Inv X pins σ H s) (r : Vals vs us) (h : sp (vs ++ dvs) H Q (WE W σ)) :
    wpAny (model X.prog X.w) X.A (call (.ref f) us) (EP X pins σ Q) X.xe s := by
  have r2 : Vals (vs ++ dvs) (us ++ ds) := r.append hd
  have hl : (us ++ ds).length = ps.length := r2.length.symm.trans (F.len _ _ _ _ h)
  refine wpAny_call (codeAny_mono (F.run X.A X.stack s H ⟨us, []⟩ _ _ Q (WE W σ) hr hg I.env0 (hb s us I.kIn hl) r2 h) fun rs s' hq => ?_)
  cases rs with
  | error e => exact passAt tk σ pins H s e s' I hq
  | ok fl =>
    cases fl with
    | ret u => exact I.after hq
    | next => exact hq.elim
    | brk => exact hq.elim
    | cont => exact hq.elim
def mCall (u : Spec) (dd : List D) (m : MA) : ME := fun sd S q x => m sd S (fun ds S1 => u (ds ++ dd) S1 q x) x
section
variable {X : Cx} {c : Cn} {m ma mb : ME} {a b e o : Expr} {es : List Expr} {mr : MA} {p pos apos : Pos} {k n : Nat} {f C : Addr} {fd : FuncData} {ps : List Str} {u : Spec} {x mt : Str} {ds : List Value} {dvs : List V} {dd : List D}
/-- what a place must have for calls -/
structure CallOk (X : Cx) (c : Cn) (k : Nat) : Prop where
  tk : Takes X c.W
  room : Room k X.A
  gd : X.A.guards = some []
  K : c.K = X.K
  mg : c.mg = X.mg
theorem CallOk.mono {j k : Nat} (h : CallOk X c k) (l : j ≤ k) : CallOk X c j := ⟨h.tk, h.room.mono l, h.gd, h.K, h.mg⟩
/-- a def as it may be called: its function, arity, defaults -/
structure Fn (X : Cx) (k : Nat) (f : Addr) (u : Spec) (dd : List D) : Prop where
  ex : ∃ fd ps dvs ds, FnG X.prog X.w X.K X.mg X.base k f fd ps (spOf X.K X.mg u) ∧ Binds X.K fd ps ds ∧ Vals dvs ds ∧ ∀ r H, RelDs X.K X.mg r H dd dvs
  kp : PySem.W.keepIn X.K (.ref f) = true
theorem call_of (hK : c.K = X.K) (hm : c.mg = X.mg) (hdd : ∀ r H, RelDs X.K X.mg r H dd dvs) {s : L2.St} {r : List Addr} {S : Sto} {dl : List D} {vs : List V} {H : Hp} {Q : VK} {q : QD} {xx : QX}
    (sm : c.Sm r H S) (rd : c.Rs r H dl vs) (h : u (dl ++ dd) S q xx) (g : GoV c r H q Q) (gx : GoX c r H s xx) : spOf X.K X.mg u (vs ++ dvs) H Q (WE c.W s) := by
  obtain ⟨cK, cmg, cP, cst, cW⟩ := c
  obtain rfl : cK = X.K := hK
  obtain rfl : cmg = X.mg := hm
  exact ⟨r, S, _, q, xx, sm, rd.append (hdd r H), h, g, gx⟩
/-- the callee with values that stand for trees -/
theorem fn_run (F : Fn X k f u dd) (hc : CallOk X c k) {pins : List (Addr × Obj)} {σ : L2.St} {H : Hp} {s : Shared} {Q : VK} {us : List Value} {vs : List V} {r : List Addr} {S : Sto} {dl : List D} {q : QD} {xx : QX} (I : Inv X pins σ H s) (rv : Vals vs us)
    (sm : c.Sm r H S) (rd : c.Rs r H dl vs) (h : u (dl ++ dd) S q xx) (g : GoV c r H q Q) (gx : GoX c r H σ xx) : wpAny (model X.prog X.w) X.A (call (.ref f) us) (EP X pins σ Q) X.xe s := by
  obtain ⟨fd, ps, dvs, ds, FF, hb, hd, hdd⟩ := F.ex
  exact runG FF hc.tk hc.room hc.gd hb hd I rv (call_of hc.K hc.mg hdd sm rd h g gx)
theorem me_call (F : Fn X k f u dd) (hc : CallOk X c k) (hg : Gl X x) (hm : X.mg x = some (.ref f)) (ha : PA X (e :: es) (tA c mr))
    (hdb : (x == ("__debug__" : Str)) = false := by decide) (he : starEach (e :: es) X.env = (false, eval e X.env) :: starEach es X.env := by rfl) (hpl : (backTo pos (starEach es X.env)).any (·.1) = false := by rfl) :
    PE X (.Call (.Name x p) (e :: es) [] pos) (tE c (mCall u dd mr)) := by
  refine ⟨fun pins s σ H Q I h => wpAny_Call_Name_kw (ld_glob I hg hm ?_ hdb)⟩
  obtain ⟨r, S, sd, q, xx, a, hm, g, gx⟩ := h
  refine PySem.W.callWith_K (h₀ := X.base) I.ok.mod.kin F.kp (thn (ha.run pos pins s σ H (fun vs H1 => ∃ r1 S1 dl, c.Sm r1 H1 S1 ∧ c.Rs r1 H1 dl vs ∧ u (dl ++ dd) S1 q xx ∧ Stp r H r1 H1) I ⟨r, S, sd, _, xx, a, hm, fun dl S1 r1 vs H1 h t sm rd => ⟨r1, S1, dl, sm, rd, h, t⟩, gx⟩) fun us s1 ⟨vs, H1, I1, rr, z⟩ => ⟨I1.kIn, ?_⟩) he hpl
  obtain ⟨r1, S1, dl, sm, rd, hu, t⟩ := z
  exact fn_run F hc I1 rr sm rd hu (g.step t) (gx.step t)
theorem me_call0 (F : Fn X k f u dd) (hc : CallOk X c k) (hg : Gl X x) (hm : X.mg x = some (.ref f)) (hdb : (x == ("__debug__" : Str)) = false := by decide) : PE X (.Call (.Name x p) [] [] pos) (tE c (mCall u dd maNil)) := by
  refine ⟨fun pins s σ H Q I h => wpAny_Call_Name_kw (ld_glob I hg hm ?_ hdb)⟩
  obtain ⟨r, S, sd, q, xx, a, hm, g, gx⟩ := h
  exact PySem.W.callWith_K0 I.kIn F.kp (fn_run (us := []) (vs := []) (dl := []) F hc I .nil a.sim .nil hm g gx)

theorem RelFs.lookup {K : PySem.W.Frag} {mg : Mg} {r : List Addr} {H : Hp} {fs : List (Str × D)} {vs : List (Str × V)} (h : RelFs K mg r H fs vs) (f : Str) : (fs.lookup f = none → vs.lookup f = none) ∧ ∀ d, fs.lookup f = some d → ∃ v, vs.lookup f = some v ∧ RelD K mg r H d v := by
  induction h with
  | nil => exact ⟨fun _ => rfl, fun d h => by cases h⟩
  | @cons g d v ds vs h _ ih =>
    by_cases e : f = g
    · subst e
      refine ⟨fun z => ?_, fun d' z => ?_⟩
      · have z' : (match f == f with | true => some d | false => ds.lookup f) = none := z
        rw [beq_self_eq_true] at z'; cases z'
      · have z' : (match f == f with | true => some d | false => ds.lookup f) = some d' := z
        rw [beq_self_eq_true] at z'; cases z'
        refine ⟨v, ?_, h⟩
        show (match f == f with | true => some v | false => vs.lookup f) = some v
        rw [beq_self_eq_true]
    · have q : (f == g) = false := by simpa using e
      have e1 : ((g, d) :: ds).lookup f = ds.lookup f := by
        show (match f == g with | true => some d | false => ds.lookup f) = _
        rw [q]
      have e2 : ((g, v) :: vs).lookup f = vs.lookup f := by
        show (match f == g with | true => some v | false => vs.lookup f) = _
        rw [q]
      rw [e1, e2]
      exact ih
theorem RelFs.length {K : PySem.W.Frag} {mg : Mg} {r : List Addr} {H : Hp} {fs : List (Str × D)} {vs : List (Str × V)} (h : RelFs K mg r H fs vs) : fs.length = vs.length := by
  induction h with
  | nil => rfl
  | cons _ _ ih => simp [ih]
/-- the instance that stands for a cell -/
theorem ins_of {r : List Addr} {S : Sto} {H : Hp} {i : Nat} {cn : Str} {fs : List (Str × D)} {v : V} (sm : c.Sm r H S) (rd : c.Rd r H (.ref i) v) (h : S[i]? = some (.ins cn fs)) (hC : c.mg cn = some (.ref C)) :
    ∃ a dx vs, v = .ref a ∧ r[i]? = some a ∧ H a = some (.ins C dx vs) ∧ H dx = some (.own a) ∧ RelFs c.K c.mg r H fs vs := by
  cases rd with
  | ref hr =>
    cases sm.obj _ _ _ h hr with
    | ins h1 h2 h3 h4 =>
      rw [hC] at h3; cases h3
      exact ⟨_, _, _, rfl, hr, h1, h2, h4⟩
/-- d is an instance of the class cn -/
def isIns (cn : Str) (d : D) (S : Sto) (k : List (Str × D) → Prop) : Prop := match d with
  | .ref i => (match S[i]? with
    | some (.ins c' fs) => c' = cn ∧ k fs
    | _ => False)
  | _ => False
theorem isIns_of {cn : Str} {d : D} {S : Sto} {k : List (Str × D) → Prop} {r : List Addr} {H : Hp} {v : V} (h : isIns cn d S k) (sm : c.Sm r H S) (rd : c.Rd r H d v) (hC : c.mg cn = some (.ref C)) :
    ∃ i fs a dx vs, d = .ref i ∧ v = .ref a ∧ r[i]? = some a ∧ S[i]? = some (.ins cn fs) ∧ H a = some (.ins C dx vs) ∧ H dx = some (.own a) ∧ RelFs c.K c.mg r H fs vs ∧ k fs := by
  unfold isIns at h
  split at h
  · rename_i i
    split at h
    · rename_i c' fs hS
      obtain ⟨rfl, hk⟩ := h
      obtain ⟨a, dx, vs, e1, e2, e3, e4, e5⟩ := ins_of (C := C) sm rd hS hC
      exact ⟨i, fs, a, dx, vs, rfl, e1, e2, hS, e3, e4, e5, hk⟩
    · exact h.elim
  · exact h.elim
/-- o.m(e, ..), o an instance of the class cn -/
def mMeth (cn : Str) (mt : Str) (u : Spec) (dd : List D) (o : ME) (m : MA) : ME := fun sd S q x => o sd S (fun d S1 => isIns cn d S1 fun fs => fs.lookup mt = none ∧ m sd S1 (fun ds S2 => u (d :: (ds ++ dd)) S2 q x) x) x
/-- the receiver is walked -/
theorem recv {pins : List (Addr × Obj)} {σ : L2.St} {H : Hp} {s : Shared} {Q : VK} {cn : Str} (ho : PE X o (tE c m)) (hc : CallOk X c k) (hC : X.mg cn = some (.ref C)) (I : Inv X pins σ H s) (h : tE c (mMeth cn mt u dd m mr) σ H Q) {R : Value → Shared → Prop}
    (go : ∀ s1 H1 a dx vs, Inv X pins σ H1 s1 → H1 a = some (.ins C dx vs) → vs.lookup mt = none →
      tA c mr σ H1 (fun ws H2 => ∃ r2 S2 q xx dl, c.Sm r2 H2 S2 ∧ c.Rs r2 H2 dl (.ref a :: ws) ∧ u (dl ++ dd) S2 q xx ∧ GoV c r2 H2 q Q ∧ GoX c r2 H2 σ xx) → R (.ref a) s1) :
    wpAny (model X.prog X.w) X.A (eval o X.env) R X.xe s := by
  obtain ⟨r, S, sd, q, xx, a, hm, g, gx⟩ := h
  refine thn (ho.run pins s σ H (fun v H1 => ∃ a dx vs, v = V.ref a ∧ H1 a = some (.ins C dx vs) ∧ vs.lookup mt = none ∧
      tA c mr σ H1 (fun ws H2 => ∃ r2 S2 q xx dl, c.Sm r2 H2 S2 ∧ c.Rs r2 H2 dl (.ref a :: ws) ∧ u (dl ++ dd) S2 q xx ∧ GoV c r2 H2 q Q ∧ GoX c r2 H2 σ xx)) I ⟨r, S, sd, _, xx, a, hm, fun d S1 r1 v H1 h1 t1 sm1 rd1 => ?_, gx⟩) fun uu s1 ⟨v, H1, I1, rx, aa, dx, vs, ev, ea, l, q1⟩ => ?_
  · obtain ⟨i, fs, aa, dx, vs, rfl, rfl, er, eS, e1, e2, e3, hl, h2⟩ := isIns_of (C := C) h1 sm1 rd1 (by rw [hc.mg]; exact hC)
    exact ⟨aa, dx, vs, rfl, e1, (e3.lookup mt).1 hl, r1, S1, sd, _, xx, a.step t1 sm1, h2, fun dl S2 r2 ws H2 h6 t2 sm2 rd2 => ⟨r2, S2, q, xx, .ref i :: dl, sm2, .cons (rd1.mono t2) rd2, h6, (g.step t1).step t2, (gx.step t1).step t2⟩, gx.step t1⟩
  · subst ev
    obtain rfl : uu = Value.ref aa := rx
    exact go s1 H1 aa dx vs I1 ea l q1
theorem me_meth {pl : Sem Bool} {cn : Str} (ho : PE X o (tE c m)) (hC : X.mg cn = some (.ref C)) (hcl : Cls X.K C) (hmt : Meth X.K C mt f) (F : Fn X k f u dd) (hc : CallOk X c k) (ha : PA X (e :: es) (tA c mr))
    (hst : starEach (e :: es) X.env = (false, eval e X.env) :: starEach es X.env := by rfl) (hpl : (backTo pos (starEach es X.env)).any (·.1) = false := by rfl)
    (ht : eval (.Call (.Attribute o mt apos) (e :: es) [] pos) X.env = (do
      let ov ← eval o X.env
      standAt apos.atName
      let (f, first) ← holding [ov] (getMethod ov mt pl)
      callWith pos f first (backTo pos (starEach (e :: es) X.env)) (backToKw pos (keywordEach [] X.env))) := by rfl) :
    PE X (.Call (.Attribute o mt apos) (e :: es) [] pos) (tE c (mMeth cn mt u dd m mr)) := by
  refine ⟨fun pins s σ H Q I h => PySem.W.methodCall_KW (pl := pl) (recv ho hc hC I h fun s1 H1 a dx vs I1 ea l q1 => ?_) ht⟩
  refine getmeth_ok I1 ea hcl hmt l ?_
  refine PySem.W.callWith_K (first := [.ref a]) (h₀ := X.base) I.ok.mod.kin hmt.kp (thn (ha.run pos pins s1 σ H1 _ I1 q1) fun us s2 ⟨ws, H2, I2, rr, z⟩ => ⟨I2.kIn, ?_⟩) hst hpl
  obtain ⟨r2, S2, q, xx, dl, sm, rd, hu, g, gx⟩ := z
  exact fn_run (us := .ref a :: us) (vs := .ref a :: ws) F hc I2 (.cons rfl rr) sm rd hu g gx
theorem me_meth0 {pl : Sem Bool} {cn : Str} (ho : PE X o (tE c m)) (hC : X.mg cn = some (.ref C)) (hcl : Cls X.K C) (hmt : Meth X.K C mt f) (F : Fn X k f u dd) (hc : CallOk X c k)
    (ht : eval (.Call (.Attribute o mt apos) [] [] pos) X.env = (do
      let ov ← eval o X.env
      standAt apos.atName
      let (f, first) ← holding [ov] (getMethod ov mt pl)
      callWith pos f first (backTo pos (starEach [] X.env)) (backToKw pos (keywordEach [] X.env))) := by rfl) :
    PE X (.Call (.Attribute o mt apos) [] [] pos) (tE c (mMeth cn mt u dd m maNil)) := by
  refine ⟨fun pins s σ H Q I h => PySem.W.methodCall_KW (pl := pl) (recv ho hc hC I h fun s1 H1 a dx vs I1 ea l q1 => ?_) ht⟩
  refine getmeth_ok I1 ea hcl hmt l ?_
  obtain ⟨r1, S1, sd1, qa, xa, a1, hm1, ga, gax⟩ := q1
  obtain ⟨r2, S2, q, xx, dl, sm, rd, hu, g, gx⟩ := ga [] S1 r1 [] H1 hm1 Stp.refl a1.sim .nil
  exact PySem.W.callWith_K0 (first := [.ref a]) I1.kIn hmt.kp (fn_run (us := [.ref a]) (vs := [.ref a]) F hc I1 (.cons rfl .nil) sm rd hu g gx)
/-! attributes -/
/-- o.f, a field -/
def mFld (cn f : Str) (o : ME) : ME := fun sd S q x => o sd S (fun d S1 => isIns cn d S1 fun fs => match fs.lookup f with
  | some v => q v S1
  | none => False) x
theorem me_fld {cn f : Str} (ho : PE X o (tE c m)) (hC : X.mg cn = some (.ref C)) (hcl : Cls X.K C) (hno : NoAttr X.K C f) (hmg : c.mg = X.mg := by rfl) (hb : attributeBase o f X.env (eval o X.env) = eval o X.env := by rfl) : PE X (.Attribute o f pos) (tE c (mFld cn f m)) := weakE (pe_fld ho hb) fun s H Q z => by
  obtain ⟨r, S, sd, q, xx, a, hm, g, gx⟩ := z
  refine ⟨r, S, sd, _, xx, a, hm, fun d S1 r1 v H1 h1 t1 sm1 rd1 => ?_, gx⟩
  obtain ⟨i, fs, aa, dx, vs, rfl, rfl, er, eS, e1, e2, e3, hl⟩ := isIns_of (C := C) h1 sm1 rd1 (by rw [hmg]; exact hC)
  split at hl
  · rename_i v hv
    obtain ⟨u, hu, ru⟩ := (e3.lookup f).2 v hv
    exact ⟨aa, C, dx, vs, u, rfl, e1, hcl, hno, hu, g v S1 r1 u H1 hl t1 sm1 ru⟩
  · exact hl.elim
/-- o.f, a property -/
def mProp (cn : Str) (u : Spec) (o : ME) : ME := fun sd S q x => o sd S (fun d S1 => isIns cn d S1 fun _ => u [d] S1 q (fun _ _ => False)) x
theorem takes_nox {X : Cx} : Takes X.nox (fun _ _ _ _ => False) := takes0
theorem me_prop {cn fn : Str} {pa : Addr} (ho : PE X o (tE c m)) (hC : X.mg cn = some (.ref C)) (hcl : Cls X.K C) (hp : PropOf X.K C fn pa f) (F : Fn X k f u []) (hc : CallOk X c (k + 1)) (hab : attributeBase o fn X.env (eval o X.env) = eval o X.env := by rfl) : PE X (.Attribute o fn pos) (tE c (mProp cn u m)) := by
  refine ⟨fun pins s σ H Q I h => ?_⟩
  obtain ⟨r, S, sd, q, xx, a, hm, g, gx⟩ := h
  refine attr_of hab (thn (ho.run pins s σ H (fun v H1 => ∃ r1 S1 i, c.Sm r1 H1 S1 ∧ c.Rd r1 H1 (.ref i) v ∧ Stp r H r1 H1 ∧ u [.ref i] S1 q (fun _ _ => False) ∧ ∃ aa dx vs, v = .ref aa ∧ H1 aa = some (.ins C dx vs)) I ⟨r, S, sd, _, xx, a, hm, fun d S1 r1 v H1 h1 t1 sm1 rd1 => ?_, gx⟩) fun uu s1 ⟨v, H1, I1, rx, r1, S1, i, sm, rd, t, hu, aa, dx, vs, ev, ea⟩ => ?_)
  · obtain ⟨i, fs, aa, dx, vs, rfl, rfl, er, eS, e1, e2, e3, hl⟩ := isIns_of (C := C) h1 sm1 rd1 (by rw [hc.mg]; exact hC)
    exact ⟨r1, S1, i, sm1, rd1, t1, hl, aa, dx, vs, rfl, e1⟩
  subst ev
  obtain rfl : uu = Value.ref aa := rx
  obtain ⟨mA, OO, _, _, _, _⟩ := ins_get I1.hok ea
  obtain ⟨od, J, _⟩ := OO.look
  obtain ⟨rest, hrec⟩ := hp.rec_
  have I2 := I1.tok (s1.toks + 1)
  obtain ⟨fd, ps, dvs, ds, FF, hb, hd, hdd⟩ := F.ex
  have hcls : (PySem.W.clsIn X.K C).isSome = true := by
    obtain ⟨cd, hcd, _⟩ := PySem.W.any_some hcl.hd
    rw [hcd]; rfl
  have sp : spOf X.K X.mg u ([.ref aa] ++ dvs) H1 Q (fun _ _ _ => False) := call_of (c := ⟨c.K, c.mg, c.P, c.st, fun _ _ _ _ => False⟩) (s := σ) (dl := [.ref i]) hc.K hc.mg hdd sm (.cons rd .nil) hu (g.step t) (fun e S' r' H' cls dd h _ _ _ => h.elim)
  have hl : ([Value.ref aa] ++ ds).length = ps.length := by
    rw [← FF.len _ _ _ _ sp]
    show ds.length + 1 = dvs.length + 1
    rw [hd.length]
  refine PySem.W.get_bind I1.kIn J (PySem.W.plainGet_of (hcl.get fn)).1 (PySem.W.findObj_data hcls hp.at_ hp.get hp.tak) (PySem.W.plainGet_of (hcl.get fn)).2 (wpAny_call (PySem.W.prop_get (s := { s1 with toks := s1.toks + 1 }) I1.kIn hrec ?_))
  refine codeAny_mono (FF.run X.A.in1 X.stack { s1 with toks := s1.toks + 1 } H1 ⟨[.ref aa], []⟩ (.ref aa :: ds) (.ref aa :: dvs) Q (fun _ _ _ => False) hc.room.in1 hc.gd I2.env0.in1 (hb _ [.ref aa] I2.kIn hl) (.cons rfl hd) sp) fun rs s' hq => ?_
  cases rs with
  | error er =>
    have z := passL (X := X) pins σ H1 { s1 with toks := s1.toks + 1 } er s' I2 hq
    obtain ⟨_, _, _, _, _, _, _, _, _, _, _, _, z⟩ := hq
    exact z.elim
  | ok fl =>
    cases fl with
    | ret uv =>
      obtain ⟨v, H', I3, rv, q3⟩ := I2.after hq
      show wpAny _ _ (handedOut uv) _ _ _
      rw [PySem.W.handedOut_of (handed_of rv)]
      exact wpAny_pure ⟨v, H', I3, rv, q3⟩
    | next => exact hq.elim
    | brk => exact hq.elim
    | cont => exact hq.elim
/-- o.f = e, o an instance of the class cn -/
def putD (f : Str) (v : D) : List (Str × D) → List (Str × D)
  | [] => [(f, v)]
  | (g, u) :: r => if g = f then (g, v) :: r else (g, u) :: putD f v r
def mSetF (cn f : Str) (o e : ME) : MS := fun md sd S => e sd S (fun v S1 => o sd S1 (fun d S2 => match d with
  | .ref i => (match S2[i]? with
    | some (.ins c' fs) => c' = cn ∧ fs.length < 1000 ∧ md.nx sd (S2.set i (.ins cn (putD f v fs)))
    | _ => False)
  | _ => False) (fun e S1 => md.ex e sd S1)) (fun e S1 => md.ex e sd S1)
theorem RelFs.put {K : PySem.W.Frag} {mg : Mg} {r : List Addr} {H : Hp} {fs : List (Str × D)} {vs : List (Str × V)} {f : Str} {d : D} {v : V} (h : RelFs K mg r H fs vs) (rd : RelD K mg r H d v) : RelFs K mg r H (putD f d fs) (putF f v vs) := by
  induction h with
  | nil => exact .cons rd .nil
  | @cons g d' v' ds vs h q ih =>
    unfold putD putF
    by_cases e : g = f
    · rw [if_pos e, if_pos e]
      exact .cons rd q
    · rw [if_neg e, if_neg e]
      exact .cons h ih
theorem ms_setf {cn f : Str} {p' : Pos} (ho : PE X o (tE c ma)) (he : PE X e (tE c mb)) (hC : X.mg cn = some (.ref C)) (hcl : Cls X.K C) (hno : NoAttr X.K C f) (hmg : c.mg = X.mg := by rfl) (hs : swapsWith e (some (.Attribute o f p')) pos.line X.env = pure false := by rfl) :
    PS X (.Assign [.Attribute o f p'] e pos) (tS c (mSetF cn f ma mb)) := weakS (ps_fld ho he hs) fun D s H z => by
  obtain ⟨r, S, sd, md, a, hm, g⟩ := z
  refine ⟨r, S, sd, _, _, a, hm, fun d S1 r1 v H1 h1 t1 sm1 rd1 => ?_, goX_of g a.rel⟩
  have g1 := g.step t1
  refine ⟨r1, S1, sd, _, _, a.step t1 sm1, h1, fun dd S2 r2 u H2 h2 t2 sm2 rd2 => ?_, goX_of g1 (a.rel.mono t1)⟩
  cases dd with
  | ref i =>
    dsimp only at h2
    split at h2
    · rename_i c' fs hS
      obtain ⟨rfl, hl, hn⟩ := h2
      obtain ⟨aa, dx, vs, rfl, er, e1, e2, e3⟩ := ins_of (C := C) sm2 rd2 hS (by rw [hmg]; exact hC)
      have ha : aa ∈ r2 := List.mem_iff_getElem?.mpr ⟨i, er⟩
      have nf : ∀ ob u, H2 aa ≠ some (.frz ob u) := fun ob u z => by rw [e1] at z; cases z
      have t3 : Stp r2 H2 r2 (upd H2 aa (.ins C dx (putF f v vs))) := Stp.write sm2 ha nf
      have ndx : dx ≠ aa := fun z => by rw [z, e1] at e2; cases e2
      refine ⟨aa, C, dx, vs, rfl, e1, hcl, hno, by rw [← e3.length]; exact hl, ?_⟩
      refine g1.nx sd _ r2 s _ hn (t2.trans t3) (sm2.write er nf (.ins upd_same (by rw [upd_ne ndx]; exact e2) (by rw [hmg]; exact hC) ((e3.mono t3).put ((rd1.mono t2).mono t3)))) (((a.rel.mono t1).mono t2).mono t3)
    · exact h2.elim
  | _ => exact h2.elim
/-- C(e, ..), C an own class whose __init__ does what u says -/
def mMake (cn : Str) (u : Spec) (dd : List D) (m : MA) : ME := fun sd S q x => m sd S (fun ds S1 => u (.ref S1.length :: (ds ++ dd)) (S1 ++ [.ins cn []]) (fun d S2 => d = .non ∧ q (.ref S1.length) S2) x) x
theorem Sim.ins2 {K : PySem.W.Frag} {mg : Mg} {r : List Addr} {H : Hp} {S : Sto} {y dx : Addr} {cn : Str} (sm : Sim K mg r H S) (hy : H y = none) (hd : H dx = none) (ne : dx ≠ y) (hC : mg cn = some (.ref C)) :
    Sim K mg (r ++ [y]) (upd (upd H dx (.own y)) y (.ins C dx [])) (S ++ [.ins cn []]) ∧ Stp r H (r ++ [y]) (upd (upd H dx (.own y)) y (.ins C dx [])) := by
  have hy2 : upd H dx (.own y) y = none := by rw [upd_ne (Ne.symm ne)]; exact hy
  exact ⟨(sm.laid hd).cell hy2 (.ins upd_same (by rw [upd_ne ne]; exact upd_same) hC .nil), (Stp.laid hd).trans (Stp.cell hy2)⟩
theorem run_mk (M : Mk X.K C f) (F : Fn X k f u dd) (hc : CallOk X c (k + 1)) {cn : Str} (hC : X.mg cn = some (.ref C)) {pins : List (Addr × Obj)} {σ : L2.St} {H : Hp} {s : Shared} {Q : VK} {us : List Value} {vs : List V} {r : List Addr} {S : Sto} {dl : List D} {q : QD} {xx : QX} (I : Inv X pins σ H s) (rv : Vals vs us)
    (sm : c.Sm r H S) (rd : c.Rs r H dl vs) (h : u (.ref S.length :: (dl ++ dd)) (S ++ [.ins cn []]) (fun d S2 => d = .non ∧ q (.ref S.length) S2) xx) (g : GoV c r H q Q) (gx : GoX c r H σ xx) : wpAny (model X.prog X.w) X.A (call (.ref C) us) (EP X pins σ Q) X.xe s := by
  obtain ⟨fd, ps, dvs, ds, FF, hb, hd, hdd⟩ := F.ex
  have hy : H (s.heap.objs.size + 1) = none := I.hok.fresh (Nat.le_succ _)
  have hdx : H s.heap.objs.size = none := I.hok.fresh (Nat.le_refl _)
  have ne : s.heap.objs.size ≠ s.heap.objs.size + 1 := Nat.ne_of_lt (Nat.lt_succ_self _)
  obtain ⟨sm2, t2⟩ := Sim.ins2 (C := C) sm hy hdx ne (by rw [hc.mg]; exact hC)
  have I2 := Inv.made (C := C) I
  have rd2 : c.Rs (r ++ [s.heap.objs.size + 1]) (upd (upd H s.heap.objs.size (.own (s.heap.objs.size + 1))) (s.heap.objs.size + 1) (.ins C s.heap.objs.size [])) (.ref S.length :: dl) (.ref (s.heap.objs.size + 1) :: vs) :=
    .cons (.ref (by rw [← sm.len, List.getElem?_append_right (Nat.le_refl _)]; simp)) (rd.mono t2)
  have sp : spOf X.K X.mg u ((.ref (s.heap.objs.size + 1) :: vs) ++ dvs) (upd (upd H s.heap.objs.size (.own (s.heap.objs.size + 1))) (s.heap.objs.size + 1) (.ins C s.heap.objs.size [])) (fun v H2 => v = .non ∧ Q (.ref (s.heap.objs.size + 1)) H2) (WE c.W σ) := by
    refine call_of (dl := .ref S.length :: dl) hc.K hc.mg hdd sm2 rd2 h (fun d S' r' v H' hq t' sm' rd' => ?_) (gx.step t2)
    obtain ⟨rfl, hq⟩ := hq
    cases rd'
    refine ⟨rfl, g _ S' r' _ H' hq (t2.trans t') sm' (.ref (t'.ext _ _ ?_))⟩
    rw [← sm.len, List.getElem?_append_right (Nat.le_refl _)]; simp
  have r2 : Vals ((.ref (s.heap.objs.size + 1) :: vs) ++ dvs) ((Value.ref (s.heap.objs.size + 1) :: us) ++ ds) := Vals.append (.cons rfl rv) hd
  have hl : ((Value.ref (s.heap.objs.size + 1) :: us) ++ ds).length = ps.length := r2.length.symm.trans (FF.len _ _ _ _ sp)
  have hgd : (X.A.under (.builtin "type.__call__" ⟨.ref C :: us, []⟩)).guards = some [] := by
    have e : (X.A.under (.builtin "type.__call__" ⟨.ref C :: us, []⟩)).guards = X.A.guards := by
      first | rfl | simp [Around.under, Code.guards, pushGuards, Code.isGuard, guardIds]
    rw [e]; exact hc.gd
  refine wpAny_call (make_map (f := f) I.kIn M.makes M.init (beq_iff_eq.mp M.fn) (codeAny_mono (FF.run _ X.stack _ _ ⟨.ref (s.heap.objs.size + 1) :: us, []⟩ _ _ _ (WE c.W σ) (hc.room.make C us []) hgd (I2.env0.make C us []) (hb _ (.ref (s.heap.objs.size + 1) :: us) I2.kIn hl) r2 sp) fun rs s' hq' => ?_))
  cases rs with
  | error e => exact passAt hc.tk σ pins _ _ e s' I2 hq'
  | ok fl =>
    cases fl with
    | ret uv =>
      obtain ⟨v, H', I3, rv', ev, q3⟩ := I2.after hq'
      subst ev
      exact ⟨rv', ⟨V.ref (s.heap.objs.size + 1), H', I3, rfl, q3⟩⟩
    | next => exact hq'.elim
    | brk => exact hq'.elim
    | cont => exact hq'.elim
theorem me_make (M : Mk X.K C f) (F : Fn X k f u dd) (hc : CallOk X c (k + 1)) (hg : Gl X x) (hm : X.mg x = some (.ref C)) (ha : PA X (e :: es) (tA c mr))
    (hdb : (x == ("__debug__" : Str)) = false := by decide) (he : starEach (e :: es) X.env = (false, eval e X.env) :: starEach es X.env := by rfl) (hpl : (backTo pos (starEach es X.env)).any (·.1) = false := by rfl) :
    PE X (.Call (.Name x p) (e :: es) [] pos) (tE c (mMake x u dd mr)) := by
  refine ⟨fun pins s σ H Q I h => wpAny_Call_Name_kw (ld_glob I hg hm ?_ hdb)⟩
  obtain ⟨r, S, sd, q, xx, a, hm', g, gx⟩ := h
  refine PySem.W.callWith_K (h₀ := X.base) I.ok.mod.kin M.kp (thn (ha.run pos pins s σ H (fun vs H1 => ∃ r1 S1 dl, c.Sm r1 H1 S1 ∧ c.Rs r1 H1 dl vs ∧ u (.ref S1.length :: (dl ++ dd)) (S1 ++ [.ins x []]) (fun d S2 => d = .non ∧ q (.ref S1.length) S2) xx ∧ Stp r H r1 H1) I ⟨r, S, sd, _, xx, a, hm', fun dl S1 r1 vs H1 h t sm rd => ⟨r1, S1, dl, sm, rd, h, t⟩, gx⟩) fun us s1 ⟨vs, H1, I1, rr, z⟩ => ⟨I1.kIn, ?_⟩) he hpl
  obtain ⟨r1, S1, dl, sm, rd, hu, t⟩ := z
  exact run_mk M F hc hm I1 rr sm rd hu (g.step t) (gx.step t)
end
end Lw

namespace Lw
open PySem PySem.Spec PyProof.Rows L2

/-! ### what is walked -/
/-- the items, and what must hold of the store at each turn -/
structure Itm where
  items : List D
  ok : Sto → Prop
abbrev MI := Sg → Sto → (Itm → Sto → Prop) → QX → Prop
/-- the iterator J goes through these items -/
structure ItOk (c : Cn) (J : It) (it : Itm) (r0 : List Addr) (H0 : Hp) : Prop where
  go : ∀ i r H S, Stp r0 H0 r H → c.Sm r H S → it.ok S → i < it.items.length → J.go i H
  stop : ∀ i r H S, Stp r0 H0 r H → c.Sm r H S → it.ok S → i = it.items.length → J.stop i H
  yld : ∀ i d x r H H' S, Stp r0 H0 r H → c.Sm r H S → it.ok S → it.items[i]? = some d → J.yld i H x H' → Stp r H r H' ∧ c.Sm r H' S ∧ c.Rd r H' d x
def tI (c : Cn) (m : MI) : TI := fun s H R => ∃ r S sd q x, At c r S sd s H ∧ m sd S q x ∧ (∀ it S' r' H' J, q it S' → Stp r H r' H' → c.Sm r' H' S' → ItOk c J it r' H' → R J H') ∧ GoX c r H s x
section
variable {X : Cx} {c : Cn} {m ma mb : ME} {a b e tg : Expr} {es : List Expr} {mr : MA} {pos p : Pos}
theorem weakI {t t' : TI} (h : PI X tg e t) (w : ∀ s H R, t' s H R → t s H R) : PI X tg e t' := ⟨fun pins s o H R I q => h.run pins s o H R I (w _ _ _ q)⟩
/-- a list or a tuple -/
def miSeq (m : ME) : MI := fun sd S q x => m sd S (fun d S1 => match d with
  | .tup ds => q ⟨ds, fun _ => True⟩ S1
  | .ref n => (match S1[n]? with
    | some (.lst ds) => q ⟨ds, fun S2 => S2[n]? = some (.lst ds)⟩ S1
    | some (.frz ds) => q ⟨ds, fun S2 => S2[n]? = some (.frz ds)⟩ S1
    | _ => False)
  | _ => False) x
def miTup (m : ME) : MI := fun sd S q x => m sd S (fun d S1 => match d with
  | .tup ds => q ⟨ds, fun _ => True⟩ S1
  | _ => False) x
def miLst (m : ME) : MI := fun sd S q x => m sd S (fun d S1 => match d with
  | .ref n => (match S1[n]? with
    | some (.lst ds) => q ⟨ds, fun S2 => S2[n]? = some (.lst ds)⟩ S1
    | some (.frz ds) => q ⟨ds, fun S2 => S2[n]? = some (.frz ds)⟩ S1
    | _ => False)
  | _ => False) x
/-- the list that stands at a for a cell -/
theorem list_at {r : List Addr} {H : Hp} {S : Sto} {n : Nat} {a : Addr} {ds : List D} (sm : c.Sm r H S) (hr : r[n]? = some a) (h : S[n]? = some (.lst ds) ∨ S[n]? = some (.frz ds)) : ∃ vs, SqL c.K H a vs ∧ c.Rs r H ds vs := by
  rcases h with h | h
  · cases sm.obj _ _ _ h hr with
    | lst h1 h2 => exact ⟨_, .inl (.inl h1), h2⟩
  · cases sm.obj _ _ _ h hr with
    | frz h1 h2 => exact ⟨_, .inl (.inr ⟨_, h1⟩), h2⟩
theorem it_list {r0 : List Addr} {H0 : Hp} {n : Nat} {a : Addr} {ds : List D} {o : O} (ho : o = .lst ds ∨ o = .frz ds) (hr : r0[n]? = some a) : ItOk c (Itl c.K a) ⟨ds, fun S2 => S2[n]? = some o⟩ r0 H0 := by
  have key : ∀ r H S, Stp r0 H0 r H → c.Sm r H S → S[n]? = some o → ∃ vs, SqL c.K H a vs ∧ c.Rs r H ds vs := fun r H S t sm h => by
    refine list_at sm (t.ext _ _ hr) ?_
    rcases ho with rfl | rfl
    · exact .inl h
    · exact .inr h
  refine ⟨fun i r H S t sm h hi => ?_, fun i r H S t sm h hi => ?_, fun i d x r H H' S t sm h hd hy => ?_⟩
  · obtain ⟨vs, h1, h2⟩ := key r H S t sm h
    have hl : i < vs.length := by rw [← h2.length]; exact hi
    exact ⟨vs, vs[i], h1, List.getElem?_eq_getElem hl⟩
  · obtain ⟨vs, h1, h2⟩ := key r H S t sm h
    exact ⟨vs, h1, by rw [← h2.length, hi]; exact Nat.le_refl _⟩
  · obtain ⟨vs, h1, h2⟩ := key r H S t sm h
    obtain ⟨rfl, hy⟩ := hy
    obtain ⟨v, hv, rv⟩ := h2.get hd
    have e := hy vs h1
    rw [hv] at e; cases e
    exact ⟨Stp.refl, sm, rv⟩
theorem it_tup {r0 : List Addr} {H0 : Hp} {a : Addr} {ds : List D} {vs : List V} (h1 : SqT c.K H0 a vs) (h2 : c.Rs r0 H0 ds vs) : ItOk c (Itt c.K a) ⟨ds, fun _ => True⟩ r0 H0 := by
  refine ⟨fun i r H S t sm h hi => ?_, fun i r H S t sm h hi => ?_, fun i d x r H H' S t sm h hd hy => ?_⟩
  · have hl : i < vs.length := by rw [← h2.length]; exact hi
    exact ⟨vs, vs[i], t.sqT h1, List.getElem?_eq_getElem hl⟩
  · exact ⟨vs, t.sqT h1, by rw [← h2.length, hi]; exact Nat.le_refl _⟩
  · obtain ⟨rfl, hy⟩ := hy
    obtain ⟨v, hv, rv⟩ := h2.get hd
    have e := hy vs (t.sqT h1)
    rw [hv] at e; cases e
    exact ⟨Stp.refl, sm, rv.mono t⟩
theorem pi_mlst (hK : c.K = X.K) (h : PE X e (tE c m)) : PI X tg e (tI c (miLst m)) := weakI (pi_list h) fun s H R z => by
  obtain ⟨r, S, sd, q, x, a, hm, g, gx⟩ := z
  refine ⟨r, S, sd, _, x, a, hm, fun d S1 r1 v H1 h1 t1 sm1 rd1 => ?_, gx⟩
  cases rd1 with
  | ref hr =>
    dsimp only at h1
    split at h1
    · rename_i ds hS
      obtain ⟨vs, q1, q2⟩ := list_at sm1 hr (.inl hS)
      exact ⟨_, rfl, ⟨vs, by rw [← hK]; exact q1⟩, by rw [← hK]; exact g _ S1 r1 H1 _ h1 t1 sm1 (it_list (.inl rfl) hr)⟩
    · rename_i ds hS
      obtain ⟨vs, q1, q2⟩ := list_at sm1 hr (.inr hS)
      exact ⟨_, rfl, ⟨vs, by rw [← hK]; exact q1⟩, by rw [← hK]; exact g _ S1 r1 H1 _ h1 t1 sm1 (it_list (.inr rfl) hr)⟩
    · exact h1.elim
  | _ => exact h1.elim
theorem pi_mtup (hK : c.K = X.K) (h : PE X e (tE c m)) : PI X tg e (tI c (miTup m)) := weakI (pi_tup h) fun s H R z => by
  obtain ⟨r, S, sd, q, x, a, hm, g, gx⟩ := z
  refine ⟨r, S, sd, _, x, a, hm, fun d S1 r1 v H1 h1 t1 sm1 rd1 => ?_, gx⟩
  cases rd1 with
  | tup hq rs => exact ⟨_, rfl, ⟨_, by rw [← hK]; exact hq⟩, by rw [← hK]; exact g _ S1 r1 H1 _ h1 t1 sm1 (it_tup hq rs)⟩
  | _ => exact h1.elim
/-! range -/
def rangeD (lo : Int) : Nat → List D
  | 0 => []
  | n + 1 => .int lo :: rangeD (lo + 1) n
theorem rangeD_len (n : Nat) : ∀ lo, (rangeD lo n).length = n := by
  induction n with
  | zero => intro _; rfl
  | succ n ih => intro lo; unfold rangeD; simp [ih]
theorem rangeD_get : ∀ (n : Nat) (lo : Int) (i : Nat) (d : D), (rangeD lo n)[i]? = some d → d = .int (lo + i)
  | 0, _, _, _, h => by unfold rangeD at h; simp at h
  | n + 1, lo, 0, d, h => by unfold rangeD at h; simp at h; rw [← h]; simp
  | n + 1, lo, i + 1, d, h => by
    unfold rangeD at h
    have e := rangeD_get n (lo + 1) i d (by simpa using h)
    rw [e]
    congr 1
    omega
theorem it_range {r0 : List Addr} {H0 : Hp} {lo : Int} {n : Nat} : ItOk c (Itr lo n) ⟨rangeD lo n, fun _ => True⟩ r0 H0 := by
  refine ⟨fun i r H S t sm h hi => ?_, fun i r H S t sm h hi => ?_, fun i d x r H H' S t sm h hd hy => ?_⟩
  · have := rangeD_len n lo
    show i < n
    simp only [this] at hi
    exact hi
  · have := rangeD_len n lo
    show n ≤ i
    simp only [this] at hi
    omega
  · obtain ⟨rfl, rfl⟩ := hy
    have e := rangeD_get n lo i d hd
    subst e
    exact ⟨Stp.refl, sm, .int _⟩
def miRange1 (m : MA) : MI := fun sd S q x => m sd S (fun ds S1 => match ds with
  | [.int j] => (-(2 ^ 62) ≤ j ∧ j < 2 ^ 62) ∧ q ⟨rangeD 0 j.toNat, fun _ => True⟩ S1
  | _ => False) x
def miRange2 (m : MA) : MI := fun sd S q x => m sd S (fun ds S1 => match ds with
  | [.int i, .int j] => (-(2 ^ 62) ≤ i ∧ i < 2 ^ 62 ∧ -(2 ^ 62) ≤ j ∧ j < 2 ^ 62) ∧ q ⟨rangeD i (j - i).toNat, fun _ => True⟩ S1
  | _ => False) x
theorem pi_mrange1 (h : ∀ {t : TA}, PA X es t → PI X tg e (iRng1 t)) (ha : PA X es (tA c mr)) : PI X tg e (tI c (miRange1 mr)) := weakI (h ha) fun s H R z => by
  obtain ⟨r, S, sd, q, x, a, hm, g, gx⟩ := z
  refine ⟨r, S, sd, _, x, a, hm, fun ds S1 r1 vs H1 h1 t1 sm1 rd1 => ?_, gx⟩
  split at h1
  · rename_i j
    cases rd1 with
    | cons h2 h3 =>
      cases h3
      cases h2
      exact ⟨j, rfl, h1.1.1, h1.1.2, g _ S1 r1 H1 _ h1.2 t1 sm1 it_range⟩
  · exact h1.elim
theorem pi_mrange2 (h : ∀ {t : TA}, PA X es t → PI X tg e (iRng2 t)) (ha : PA X es (tA c mr)) : PI X tg e (tI c (miRange2 mr)) := weakI (h ha) fun s H R z => by
  obtain ⟨r, S, sd, q, x, a, hm, g, gx⟩ := z
  refine ⟨r, S, sd, _, x, a, hm, fun ds S1 r1 vs H1 h1 t1 sm1 rd1 => ?_, gx⟩
  split at h1
  · rename_i i j
    cases rd1 with
    | cons h2 h3 =>
      cases h3 with
      | cons h3 h4 =>
        cases h4
        cases h2
        cases h3
        exact ⟨i, j, rfl, h1.1, g _ S1 r1 H1 _ h1.2 t1 sm1 it_range⟩
  · exact h1.elim
/-! a text, sign by sign -/
def signsD (z : Str) : List D := z.cps.toList.map fun n => .str ⟨#[n]⟩
def miStr (m : ME) : MI := fun sd S q x => m sd S (fun d S1 => match d with
  | .str z => q ⟨signsD z, fun _ => True⟩ S1
  | _ => False) x
end
/-! ### for -/
def forL (ok : Sto → Prop) (g : MG) (b : MS) (md : MEnds) : List D → Sg → Sto → Prop
  | [], sd, S => ok S ∧ md.nx sd S
  | d :: ds, sd, S => ok S ∧ g d sd S (fun sd1 S1 => b { md with nx := forL ok g b md ds, ct := forL ok g b md ds, bk := md.nx } sd1 S1)
def mFor (mi : MI) (g : MG) (b : MS) : MS := fun md sd S => mi sd S (fun it S1 => forL it.ok g b md it.items sd S1) (fun e S1 => md.ex e sd S1)
section
variable {X : Cx} {c : Cn} {mi : MI} {g : MG} {p : MS} {it tg : Expr} {sa : List Stmt} {pos : Pos}
theorem ms_for (hp : PassesOwn (model X.prog X.w) X.A X.env X.xe) (hc : X.calm = true) (hi : PI X tg it (tI c mi)) (hg : PG X tg (tGm c g)) (hb : PSs X sa (tS c p)) (hs : ∀ x, foldedSetIterable it X.env x = pure x := by intro _; rfl) : PS X (.For tg it sa [] pos) (tS c (mFor mi g p)) := weakS (ps_for hp hc hi hg hb hs) fun D s H z => by
  obtain ⟨r, S, sd, md, a, hm, gg⟩ := z
  refine ⟨r, S, sd, _, _, a, hm, fun im S1 r1 H1 J h1 t1 sm1 io => ?_, goX_of gg a.rel⟩
  refine ⟨fun i m s' H' => i + m = im.items.length ∧ ∃ r' S' sd', At c r' S' sd' s' H' ∧ Stp r1 H1 r' H' ∧ forL im.ok g p md (im.items.drop i) sd' S' ∧ EOk c r' H' md D,
    ⟨im.items.length, by omega, r1, S1, sd, a.step t1 sm1, Stp.refl, h1, gg.step t1⟩, fun i m s2 H2 w => ?_⟩
  obtain ⟨em, r2, S2, sd2, a2, t2, f2, g2⟩ := w
  cases m with
  | zero =>
    have e : im.items.drop i = [] := List.drop_of_length_le (by omega)
    rw [e] at f2
    exact .inl ⟨io.stop i r2 H2 S2 t2 a2.sim f2.1 (by omega), g2.nx sd2 S2 r2 s2 H2 f2.2 Stp.refl a2.sim a2.rel⟩
  | succ m =>
    have hl : i < im.items.length := by omega
    rw [List.drop_eq_getElem_cons hl] at f2
    refine .inr ⟨io.go i r2 H2 S2 t2 a2.sim f2.1 hl, fun s' H' => i + 1 + m = im.items.length ∧ ∃ r' S' sd', At c r' S' sd' s' H' ∧ Stp r1 H1 r' H' ∧ forL im.ok g p md (im.items.drop (i + 1)) sd' S' ∧ EOk c r' H' md D, fun s' H' w => ⟨m, Nat.lt_succ_self m, w⟩, fun x H3 hy => ?_⟩
    obtain ⟨t3, sm3, rd3⟩ := io.yld i _ x r2 H2 H3 S2 t2 a2.sim f2.1 (List.getElem?_eq_getElem hl) hy
    have g3 := g2.step t3
    refine ⟨r2, S2, sd2, _, _, a2.step t3 sm3, rd3, f2.2, fun sd4 S4 r4 s4 H4 h4 t4 sm4 rl4 => ?_⟩
    have g4 := g3.step t4
    have t14 := (t2.trans t3).trans t4
    have hyp4 := c.st t4 (c.st t3 a2.hyp)
    refine ⟨r4, S4, sd4, _, ⟨sm4, rl4, hyp4⟩, h4, ⟨fun sd5 S5 r5 s5 H5 h5 t5 sm5 rl5 => ?_, g4.rt, g4.nx, fun sd5 S5 r5 s5 H5 h5 t5 sm5 rl5 => ?_, g4.ex⟩⟩
    · exact ⟨by omega, r5, S5, sd5, ⟨sm5, rl5, c.st t5 hyp4⟩, t14.trans t5, h5, g4.step t5⟩
    · exact ⟨by omega, r5, S5, sd5, ⟨sm5, rl5, c.st t5 hyp4⟩, t14.trans t5, h5, g4.step t5⟩
end
/-! ### comprehensions -/
def wipeD (sd : Sg) : List Nat → Sg
  | [] => sd
  | v :: vs => (wipeD sd vs).set v none
theorem RelG.wipe {K : PySem.W.Frag} {mg : Mg} {r : List Addr} {H : Hp} {sd : Sg} {s : L2.St} (g : RelG K mg r H sd s) : ∀ vs, RelG K mg r H (wipeD sd vs) (wipe s vs)
  | [] => g
  | v :: vs => by
    have ih := RelG.wipe g vs
    unfold wipeD L2.wipe
    refine ⟨by simp [ih.len], fun i d h => ?_⟩
    by_cases e : v = i
    · subst e
      by_cases hl : v < (wipeD sd vs).length
      · rw [List.getElem?_set_self hl] at h; cases h
      · rw [List.getElem?_eq_none (by simpa using hl)] at h; cases h
    · rw [List.getElem?_set_ne e] at h
      obtain ⟨x, hx, rx⟩ := ih.at_ i d h
      exact ⟨x, by rw [List.getElem?_set_ne e]; exact hx, rx⟩
/-- a target stores in these slots alone -/
def GOnly (vs : List Nat) (g : TG) : Prop := ∀ v s H Q Q', g v s H Q → (∀ s' H', wipe s' vs = wipe s vs → Q s' H' → Q' s' H') → g v s H Q'
def GsOnly (vs : List Nat) (g : TGs) : Prop := ∀ v s H Q Q', g v s H Q → (∀ s' H', wipe s' vs = wipe s vs → Q s' H' → Q' s' H') → g v s H Q'
theorem wipe_set {s : L2.St} {x : Option V} {i : Nat} : ∀ {vs : List Nat}, i ∈ vs → wipe (s.set i x) vs = wipe s vs
  | [], h => by simp at h
  | v :: vs, h => by
    unfold L2.wipe
    by_cases e : i ∈ vs
    · rw [wipe_set e]
    · have ei : i = v := by
        rcases List.mem_cons.mp h with h | h
        · exact h
        · exact absurd h e
      subst ei
      have : ∀ {us : List Nat}, i ∉ us → wipe (s.set i x) us = (wipe s us).set i x := by
        intro us
        induction us with
        | nil => intro _; rfl
        | cons u us ih =>
          intro hn
          unfold L2.wipe
          rw [ih (fun z => hn (List.mem_cons_of_mem _ z)), List.set_comm _ _ (fun z => hn (by rw [z]; exact List.mem_cons_self ..))]
      rw [this e, List.set_set]
theorem wipe_setN {s : L2.St} {i : Nat} : ∀ vs : List Nat, wipe (s.set i none) vs = (wipe s vs).set i none
  | [] => rfl
  | v :: vs => by
    unfold L2.wipe
    rw [wipe_setN vs]
    by_cases e : i = v
    · subst e; rfl
    · rw [List.set_comm _ _ e]
theorem wipe_idem {s : L2.St} : ∀ vs : List Nat, wipe (wipe s vs) vs = wipe s vs
  | [] => rfl
  | v :: vs => by
    show (wipe ((wipe s vs).set v none) vs).set v none = (wipe s vs).set v none
    rw [wipe_setN vs, wipe_idem vs, List.set_set]
theorem only_name {vs : List Nat} {i : Nat} (h : i ∈ vs) : GOnly vs (gName i) := fun v s H Q Q' q k => k _ _ (wipe_set h) q
theorem only_nil {vs : List Nat} : GsOnly vs gNil := fun v s H Q Q' q k => ⟨q.1, k _ _ rfl q.2⟩
theorem only_cons {vs : List Nat} {g : TG} {h : TGs} (a : GOnly vs g) (b : GsOnly vs h) : GsOnly vs (gCons g h) := fun v s H Q Q' q k => by
  obtain ⟨x, y, e, q⟩ := q
  exact ⟨x, y, e, a _ _ _ _ _ q fun s' H' e1 q1 => b _ _ _ _ _ q1 fun s2 H2 e2 q2 => k s2 H2 (e2.trans e1) q2⟩
theorem only_tup {vs : List Nat} {K : PySem.W.Frag} {n : Nat} {h : TGs} (b : GsOnly vs h) : GOnly vs (gTup K n h) := fun v s H Q Q' q k => by
  obtain ⟨a, xs, e, hq, l, q⟩ := q
  exact ⟨a, xs, e, hq, l, b _ _ _ _ _ q k⟩
/-- the layer's target and the one over trees -/
def GLe (c : Cn) (g : MG) (gg : TG) : Prop := ∀ v s H Q, tGm c g v s H Q → gg v s H Q
def GsLe (c : Cn) (g : MGs) (gg : TGs) : Prop := ∀ v s H Q, tGms c g v s H Q → gg v s H Q
section
variable {c : Cn}
theorem le_name {i : Nat} : GLe c (gmName i) (gName i) := fun v s H Q z => by
  obtain ⟨r, S, sd, d, k, a, rd, hg, n⟩ := z
  exact n _ S r _ H hg Stp.refl a.sim (a.rel.put rd)
theorem le_nil : GsLe c gmNil gNil := fun v s H Q z => by
  obtain ⟨r, S, sd, d, k, a, rd, hg, n⟩ := z
  cases rd with
  | nil => exact ⟨rfl, n sd S r s H hg Stp.refl a.sim a.rel⟩
  | cons _ _ => exact hg.elim
theorem le_cons {g : MG} {gg : TG} {h : MGs} {hh : TGs} (h1 : GLe c g gg) (h2 : GsLe c h hh) : GsLe c (gmCons g h) (gCons gg hh) := fun v s H Q z => by
  obtain ⟨r, S, sd, d, k, a, rd, hg, n⟩ := z
  cases rd with
  | nil => exact hg.elim
  | cons r1 r2 =>
    refine ⟨_, _, rfl, h1 _ _ _ _ ⟨r, S, sd, _, _, a, r1, hg, fun sd1 S1 ra s1 H1 h t sm rl => ?_⟩⟩
    exact h2 _ _ _ _ ⟨ra, S1, sd1, _, k, ⟨sm, rl, c.st t a.hyp⟩, r2.mono t, h, fun sd2 S2 rb s2 H2 h t2 => n sd2 S2 rb s2 H2 h (t.trans t2)⟩
theorem le_tup {K : PySem.W.Frag} {n : Nat} {h : MGs} {hh : TGs} (hK : c.K = K) (hs : GsLe c h hh) : GLe c (gmTup n h) (gTup K n hh) := fun v s H Q z => by
  obtain ⟨r, S, sd, d, kk, a, rd, hg, nn⟩ := z
  cases rd with
  | tup hq rs => exact ⟨_, _, rfl, by rw [← hK]; exact hq, by rw [← rs.length]; exact hg.1, hs _ _ _ _ ⟨r, S, sd, _, kk, a, rs, hg.2, nn⟩⟩
  | _ => exact hg.elim
end
/-- the block of a list comprehension: what is wished of exceptions within is nothing -/
abbrev Cn.blk (c : Cn) : Cn := ⟨c.K, c.mg, fun _ _ => True, fun _ _ => trivial, fun _ _ _ _ => False⟩
def noX : QX := fun _ _ => False
def compL (ok : Sto → Prop) (g : MG) (t : MT) (e : ME) (sd0 : Sg) (q : List D → Sto → Prop) : List D → List D → Sto → Prop
  | [], acc, S => ok S ∧ q acc S
  | d :: ds, acc, S => ok S ∧ g d sd0 S (fun sd1 S1 => t sd1 S1 (fun k S2 => if k = true then e sd1 S2 (fun y S3 => acc.length < sizeLine ∧ compL ok g t e sd0 q ds (acc ++ [y]) S3) noX else compL ok g t e sd0 q ds acc S2) noX)
def mtYes : MT := fun _ S q _ => q true S
def mComp (mi : MI) (vs : List Nat) (g : MG) (t : MT) (e : ME) : ME := fun sd S q x => mi sd S (fun it S1 => compL it.ok g t e (wipeD sd vs) (fun ys S2 => q (.ref S2.length) (S2 ++ [.lst ys])) it.items [] S1) x
section
variable {X : Cx} {c : Cn} {mi : MI} {g : MG} {t : MT} {e : ME}
/-- the list that is being made, at D, beside the cells -/
structure Mid (c : Cn) (r1 : List Addr) (H1 : Hp) (D : Addr) (acc : List Lw.D) (r : List Addr) (H : Hp) (S : Sto) : Prop where
  sim : c.Sm r H S
  new : D ∉ r
  old : H1 D = none
  at_ : ∃ vs, H D = some (.lst vs) ∧ c.Rs r H acc vs
  stp : Stp r1 H1 r H
/-- behind the end: the new list is a cell -/
theorem Mid.done {r1 r : List Addr} {H1 H : Hp} {D : Addr} {acc : List Lw.D} {S : Sto} (m : Mid c r1 H1 D acc r H S) : Stp r1 H1 (r ++ [D]) H ∧ c.Sm (r ++ [D]) H (S ++ [.lst acc]) := by
  obtain ⟨vs, hD, hvs⟩ := m.at_
  have t1 : Stp r1 H1 r H := m.stp
  have w : Wk r H (r ++ [D]) H := ⟨fun i a h => by
    have hl : i < r.length := (List.getElem?_eq_some_iff.mp h).1
    rw [List.getElem?_append_left hl]; exact h, fun _ _ h => h, fun _ _ _ h => h, fun _ _ h => h⟩
  refine ⟨⟨t1.toWk.trans w, fun a h q => ?_, t1.out⟩, by simp [m.sim.len], ?_, fun i o a h1 h2 => ?_⟩
  · rcases List.mem_append.mp h with h | h
    · exact t1.new a h q
    · have e : a = D := by simpa using h
      rw [e]; exact m.old
  · refine List.nodup_append.mpr ⟨m.sim.nd, by simp, fun a ha b hb e => ?_⟩
    have eb : b = D := by simpa using hb
    subst eb; subst e
    exact m.new ha
  · by_cases hl : i < S.length
    · have hl' : i < r.length := by rw [m.sim.len]; exact hl
      rw [List.getElem?_append_left hl] at h1
      rw [List.getElem?_append_left hl'] at h2
      exact (m.sim.obj i o a h1 h2).mono' w rfl fun _ h => h
    · have e : i = S.length := by
        have := (List.getElem?_eq_some_iff.mp h1).1
        simp at this; omega
      subst e
      rw [List.getElem?_append_right (Nat.le_refl _)] at h1
      rw [← m.sim.len, List.getElem?_append_right (Nat.le_refl _)] at h2
      simp at h1 h2
      subst h1; subst h2
      exact .lst hD (hvs.monoW w)
theorem Mid.go {r1 r r' : List Addr} {H1 H H' : Hp} {D : Addr} {acc : List Lw.D} {S S' : Sto} (m : Mid c r1 H1 D acc r H S) (t : Stp r H r' H') (sm : c.Sm r' H' S') : Mid c r1 H1 D acc r' H' S' := by
  obtain ⟨vs, hD, hvs⟩ := m.at_
  refine ⟨sm, fun h => ?_, m.old, ⟨vs, t.out D _ hD m.new, hvs.mono t⟩, m.stp.trans t⟩
  have z := t.new D h m.new
  rw [hD] at z; cases z
theorem Mid.put {r1 r : List Addr} {H1 H : Hp} {D : Addr} {acc : List Lw.D} {S : Sto} {vs : List V} {d : Lw.D} {v : V} (m : Mid c r1 H1 D acc r H S) (hD : H D = some (.lst vs)) (rd : c.Rd r H d v) : Mid c r1 H1 D (acc ++ [d]) r (upd H D (.lst (vs ++ [v]))) S := by
  obtain ⟨vs', hD', hvs⟩ := m.at_
  rw [hD] at hD'; cases hD'
  have ne : ∀ {b : Addr} {o : HO}, H b = some o → (∀ xs, o ≠ .lst xs) → b ≠ D := fun h q e => by
    rw [e, hD] at h; cases h
    exact q _ rfl
  have w : Wk r H r (upd H D (.lst (vs ++ [v]))) := ⟨fun _ _ h => h, fun a xs h => by rw [upd_ne (ne h (fun _ z => nomatch z))]; exact h, fun a o u h => by rw [upd_ne (ne h (fun _ z => nomatch z))]; exact h, fun a fs h => by rw [upd_ne (ne h (fun _ z => nomatch z))]; exact h⟩
  refine ⟨⟨m.sim.len, m.sim.nd, fun i o a h1 h2 => ?_⟩, m.new, m.old, ⟨_, upd_same, RelDs.append (hvs.monoW w) (.cons (rd.monoW w) .nil)⟩, ?_⟩
  · have na : a ≠ D := fun e => m.new (by rw [← e]; exact List.mem_iff_getElem?.mpr ⟨i, h2⟩)
    exact (m.sim.obj i o a h1 h2).mono' w (upd_ne na) fun dx h => by rw [upd_ne (ne h (fun _ z => nomatch z))]; exact h
  · refine ⟨⟨m.stp.ext, fun a xs h => ?_, fun a o u h => ?_, fun a fs h => ?_⟩, fun a h q => m.stp.new a h q, fun a o h q => ?_⟩
    · exact w.tup a xs (m.stp.tup a xs h)
    · exact w.frz a o u (m.stp.frz a o u h)
    · exact w.xd a fs (m.stp.xd a fs h)
    · rw [upd_ne (ne_of_none h m.old)]
      exact m.stp.out a o h q
/-- a target in a block: the layer's rule, that it keeps to the slots vs, that it follows the one over trees -/
structure BlkG (X : Cx) (c : Cn) (vs : List Nat) (tg : Expr) (g : MG) : Prop where
  ex : ∃ gg, PG X tg gg ∧ GOnly vs gg ∧ GLe c g gg
theorem tLc_of {vs : List Nat} {wi : TI} {gg : TG} (hw : ∀ s H R, tI c mi s H R → wi s H R) (ho : GOnly vs gg) (hl : GLe (Cn.blk c) g gg) : ∀ s H Q, tE c (mComp mi vs g t e) s H Q → tLc wi gg (tT (Cn.blk c) t) (tE (Cn.blk c) e) vs s H Q := fun s H Q z => by
  obtain ⟨r, S, sd, q, x, a, hm, gv, gx⟩ := z
  refine hw _ _ _ ⟨r, S, sd, _, x, a, hm, fun im S1 r1 H1 J h1 t1 sm1 io D hD => ?_, gx⟩
  have rel1 := (a.rel.mono t1).wipe vs
  refine ⟨fun i m H' => i + m = im.items.length ∧ ∃ r' S' acc, Mid c r1 H1 D acc r' H' S' ∧ compL im.ok g t e (wipeD sd vs) (fun ys S2 => q (.ref S2.length) (S2 ++ [.lst ys])) (im.items.drop i) acc S',
    ⟨im.items.length, by omega, r1, S1, [], ⟨sm1.laid hD, sm1.fresh hD, hD, ⟨[], upd_same, .nil⟩, Stp.laid hD⟩, h1⟩, fun i m H2 w => ?_⟩
  obtain ⟨em, r2, S2, acc, md2, f2⟩ := w
  cases m with
  | zero =>
    have e0 : im.items.drop i = [] := List.drop_of_length_le (by omega)
    rw [e0] at f2
    obtain ⟨tD, smD⟩ := md2.done
    exact .inl ⟨io.stop i r2 H2 S2 md2.stp md2.sim f2.1 (by omega), gv _ _ _ _ _ f2.2 (t1.trans tD) smD (.ref (by rw [← md2.sim.len, List.getElem?_append_right (Nat.le_refl _)]; simp))⟩
  | succ m =>
    have hl2 : i < im.items.length := by omega
    rw [List.drop_eq_getElem_cons hl2] at f2
    refine .inr ⟨io.go i r2 H2 S2 md2.stp md2.sim f2.1 hl2, fun H' => i + 1 + m = im.items.length ∧ ∃ r' S' acc, Mid c r1 H1 D acc r' H' S' ∧ compL im.ok g t e (wipeD sd vs) (fun ys S2 => q (.ref S2.length) (S2 ++ [.lst ys])) (im.items.drop (i + 1)) acc S',
      fun H' w => ⟨m, Nat.lt_succ_self m, w⟩, fun xv H3 hy => ?_⟩
    obtain ⟨t3, sm3, rd3⟩ := io.yld i _ xv r2 H2 H3 S2 md2.stp md2.sim f2.1 (List.getElem?_eq_getElem hl2) hy
    have md3 := md2.go t3 sm3
    have a3 : At (Cn.blk c) r2 S2 (wipeD sd vs) (wipe s vs) H3 := ⟨sm3, rel1.mono md3.stp, trivial⟩
    refine ho _ _ _ _ _ (hl _ _ _ _ ⟨r2, S2, _, _, (fun sd4 S4 => t sd4 S4 (fun k S2 => if k = true then e sd4 S2 (fun y S3 => acc.length < sizeLine ∧ compL im.ok g t e (wipeD sd vs) (fun ys S2 => q (.ref S2.length) (S2 ++ [.lst ys])) (im.items.drop (i + 1)) (acc ++ [y]) S3) noX else compL im.ok g t e (wipeD sd vs) (fun ys S2 => q (.ref S2.length) (S2 ++ [.lst ys])) (im.items.drop (i + 1)) acc S2) noX), a3, rd3, f2.2, fun sd4 S4 r4 s4 H4 h4 t4 sm4 rl4 => (⟨r4, S4, sd4, h4, t4, sm4, rl4⟩ : ∃ r4 S4 sd4, t sd4 S4 (fun k S2 => if k = true then e sd4 S2 (fun y S3 => acc.length < sizeLine ∧ compL im.ok g t e (wipeD sd vs) (fun ys S2 => q (.ref S2.length) (S2 ++ [.lst ys])) (im.items.drop (i + 1)) (acc ++ [y]) S3) noX else compL im.ok g t e (wipeD sd vs) (fun ys S2 => q (.ref S2.length) (S2 ++ [.lst ys])) (im.items.drop (i + 1)) acc S2) noX ∧ Stp r2 H3 r4 H4 ∧ c.Sm r4 H4 S4 ∧ RelG c.K c.mg r4 H4 sd4 s4)⟩) fun s4 H4 ew q4 => ?_
    obtain ⟨r4, S4, sd4, h4, t4, sm4, rl4⟩ := q4
    have md4 := md3.go t4 sm4
    refine ⟨ew.trans (wipe_idem vs), r4, S4, sd4, _, noX, ⟨sm4, rl4, trivial⟩, h4, fun k S5 r5 H5 h5 t5 sm5 => ?_, fun e S' r' H' cls dd h _ _ _ => h.elim⟩
    have md5 := md4.go t5 sm5
    cases k with
    | false => exact iteF ⟨by omega, r5, S5, acc, md5, h5⟩
    | true =>
      refine iteT ⟨r5, S5, sd4, _, noX, ⟨sm5, rl4.mono t5, trivial⟩, h5, fun y S6 r6 v6 H6 h6 t6 sm6 rd6 => ?_, fun e S' r' H' cls dd h _ _ _ => h.elim⟩
      have md6 := md5.go t6 sm6
      obtain ⟨vs6, hD6, rv6⟩ := md6.at_
      refine ⟨vs6, hD6, by rw [← rv6.length]; exact h6.1, by omega, r6, S6, acc ++ [y], md6.put hD6 rd6, h6.2⟩
theorem me_lc {elt tg iter : Expr} {ifs : List Expr} {scope : Scope} {own : List (Str × Nat)} {pos : Pos} {gg : TG} (hc : X.calm = true) (hN : X.N.Nodup) (hi : PI X tg iter (tI c mi)) (ok : BlkOk X.N X.env.scope scope own) (ho : GOnly (own.map (·.2)) gg) (hl : GLe (Cn.blk c) g gg)
    (hg : ∀ (s : Shared) (H : Hp) (C : Addr) (cl : List (Str × Addr)) (fp : List Addr), PG (X.blk s H scope (compEnvC scope cl C X.env) fp) tg gg)
    (ht : ∀ (s : Shared) (H : Hp) (C : Addr) (cl : List (Str × Addr)) (fp : List Addr), PTs (X.blk s H scope (compEnvC scope cl C X.env) fp) ifs (tT (Cn.blk c) t))
    (he : ∀ (s : Shared) (H : Hp) (C : Addr) (cl : List (Str × Addr)) (fp : List Addr), PE (X.blk s H scope (compEnvC scope cl C X.env) fp) elt (tE (Cn.blk c) e)) (hs : ∀ x, foldedSetIterable iter X.env x = pure x := by intro _; rfl) :
    PE X (.ListComp elt [⟨tg, iter, ifs, 0⟩] scope pos) (tE c (mComp mi (own.map (·.2)) g t e)) := weakE (pe_lc hc hN hi ok hg ht he hs) (tLc_of (fun _ _ _ z => z) ho hl)
theorem mts_nil : PTs X [] (tT c mtYes) := ⟨fun pins s o H Q I h => by
  obtain ⟨r, S, sd, q, x, a, hm, g, gx⟩ := h
  exact pts_nil.run pins s o H Q I (g true S r H hm Stp.refl a.sim)⟩
/-- name = [..] -/
theorem ms_setLc {i : Nat} {y : Str} {py : Pos} {elt tg iter : Expr} {ifs : List Expr} {scope : Scope} {own : List (Str × Nat)} {pos spos : Pos} {gg : TG} (hc : X.calm = true) (hN : X.N.Nodup) (hy : X.N[i]? = some y) (hyl : X.env.scope.names.lookup y = some .local)
    (hsw : swapsWith (.ListComp elt [⟨tg, iter, ifs, 0⟩] scope pos) (some (.Name y py)) spos.line X.env = pure true) (hi : PI X tg iter (tI c mi)) (ok : BlkOk X.N X.env.scope scope own) (ho : GOnly (own.map (·.2)) gg) (hl : GLe (Cn.blk c) g gg)
    (hg : ∀ (s : Shared) (H : Hp) (C : Addr) (cl : List (Str × Addr)) (fp : List Addr), PG (X.blk s H scope (compEnvC scope cl C X.env) fp) tg gg)
    (ht : ∀ (s : Shared) (H : Hp) (C : Addr) (cl : List (Str × Addr)) (fp : List Addr), PTs (X.blk s H scope (compEnvC scope cl C X.env) fp) ifs (tT (Cn.blk c) t))
    (he : ∀ (s : Shared) (H : Hp) (C : Addr) (cl : List (Str × Addr)) (fp : List Addr), PE (X.blk s H scope (compEnvC scope cl C X.env) fp) elt (tE (Cn.blk c) e)) (hs : ∀ x, foldedSetIterable iter X.env x = pure x := by intro _; rfl) :
    PS X (.Assign [.Name y py] (.ListComp elt [⟨tg, iter, ifs, 0⟩] scope pos) spos) (tS c (mAsg (mComp mi (own.map (·.2)) g t e) (gmName i))) := weakS (ps_setLc hc hN hy hyl hsw hi ok hg ht he hs) fun D s H z => by
  obtain ⟨r, S, sd, md, a, hm, gk⟩ := z
  refine tLc_of (c := c) (fun _ _ _ z => z) ho hl s H _ ⟨r, S, sd, _, _, a, hm, fun d S1 r1 v H1 h t sm rd => ?_, goX_of gk a.rel⟩
  exact gk.nx _ S1 r1 _ H1 h t sm ((a.rel.mono t).put rd)
end
end Lw

namespace Lw
open PySem PySem.Spec PyProof.Rows L2

/-! ### own exception classes over any built-in base -/
/-- own classes, then the base's chain -/
inductive RefsT (T : List Value) : List Value → Prop
  | tail : RefsT T T
  | cons {C : Addr} {l : List Value} (h : RefsT T l) : RefsT T (.ref C :: l)
/-- a built-in base -/
structure EBase (B nw ini : String) (T : List Value) : Prop where
  F : ExcBaseFacts B nw ini T
  pass : ∀ self, refuseLoop self "__setattr__" T = pure ()
  obj : T.contains (.type "object") = true
theorem RefsT.pass {B nw ini : String} {T l : List Value} (E : EBase B nw ini T) (self : Value) (h : RefsT T l) : refuseLoop self "__setattr__" l = pure () := by
  induction h with
  | tail => exact E.pass self
  | cons _ ih => rw [refuseLoop_ref]; exact ih
theorem RefsT.has {T l : List Value} (X : String) (h : RefsT T l) : l.contains (.type X) = T.contains (.type X) := by
  induction h with
  | tail => rfl
  | cons _ ih => rw [List.contains_cons, ih]; rfl
theorem RefsT.ne {B nw ini : String} {T l : List Value} (E : EBase B nw ini T) (h : RefsT T l) : l.isEmpty = false := by
  cases h with
  | tail =>
    cases T with
    | nil => exact absurd E.obj (by decide)
    | cons _ _ => rfl
  | cons _ => rfl
/-- what the written part says of such a class -/
structure ExC (K : PySem.W.Frag) (B nw ini : String) (T : List Value) (C : Addr) : Prop where
  base : EBase B nw ini T
  cls : ∃ nm q N bs bm sn sub ab col dd k0 k1 k2 k3 k5, K.lookup C = some (excClassObj nm q C N bs bm true sn sub ab col dd k0 k1 k2 k3 k5 nw) ∧ RefsT T bm
  sa : PySem.W.findIn K (.ref C) "__setattr__" = some (some (.builtin "object.__setattr__"))
  exC : PySem.W.subIn K (.ref C) (.type "BaseException") = some true
  tyC : PySem.W.typeIn K (.ref C) = some (.type "type")
  kC : PySem.W.keepIn K (.ref C) = true
section
open PySem.W PySem.HandSPX Builtin Builtin.ObjectAttr
variable {prog : Program} {w : World} {A : Around} {E : Value → Shared → Prop} {R : Result → Shared → Prop} {hp : Heap} {g : Array GenState} {d : Drawn} {t : Nat} {os : OsState} {B nw ini : String} {T : List Value}
/-- a field stored into an exception: what is common to the first one and a further one -/
theorem esa_core {K : Frag} {name : Str} {tk : Tok} {v : Value} {x C : Addr} {ox : Obj} {cd : ClassData} (EB : EBase B nw ini T) (X : K.In hp) (hx : hp.get? x = some ox) (hc : ox.cls = .ref C) (hcd : clsIn K C = some cd) (hm : RefsT T cd.mro)
    (ha : findIn K (.ref C) name = some none) (hq : wpAny (model prog w) A.in1 (storeInOwnDict (.ref x) (.ref C) (.str name tk) name v false) (fun fin s' => match fin with
      | .done f => R (.ok f) s'
      | .again c' => c'.quiet = true ∧ codeAny (model prog w) A c' R s') (fun e s' => R (.error e) s') ⟨hp, g, d, t, os⟩) :
    codeAny (model prog w) A (.call (.builtin "object.__setattr__") ⟨[.ref x, .str name tk, v], []⟩) R ⟨hp, g, d, t, os⟩ := by
  have SF := F.store_object
  have ne := hm.ne EB
  have hob : cd.mro.contains (.type "object") = true := (hm.has "object").trans EB.obj
  have ty : Looks (model prog w) hp (typeOf (.ref x)) (.ref C) := fun A' Q' E' s' k q => wpAny_typeOf_ref (k _ _ hx) (by rw [hc]; exact q)
  have sub : Looks (model prog w) hp (isInstance (.ref x) (.type "object")) true := ty.andThen (looks_mroIn X (by unfold mroIn; rw [hcd, Option.bind_some, if_neg (by rw [ne]; decide), hob]))
  refine codeAny_call_builtin SF.slot.plain SF.entry (@check_slot (model prog w) _ _ ⟨hp, g, d, t, os⟩ "object.__setattr__" "object" "__setattr__" (.ref x) [.str name tk, v] [] _ SF.kind SF.split sub (SF.args (.ref x) (.str name tk) v) ?_)
  have hmr : Looks (model prog w) hp (mroOf (.ref C)) cd.mro := (looks_clsIn X hcd).andThen .now
  have L3 : Looks (model prog w) hp (storeTaker? none) none := .now
  rw [osa_eq, refuse_eq]
  refine wpAny_bind (wpAny_bind (ty.at (wpAny_bind (hmr.at ?_))))
  rw [hm.pass EB]
  refine wpAny_pure (wpAny_bind (ty.at (wpAny_bind ((looks_findIn X ha).at (wpAny_bind (L3.at ?_))))))
  exact hq
theorem esa_new {K : Frag} {name : Str} {tk : Tok} {v : Value} {x C : Addr} {fv : Array Value} {cd : ClassData} (EB : EBase B nw ini T)
    (X : K.In hp) (hx : hp.get? x = some { cls := .ref C, data := .fields fv }) (hcd : clsIn K C = some cd) (hm : RefsT T cd.mro) (hh : cd.hasDict = true) (ha : findIn K (.ref C) name = some none)
    (hq : ∀ h' tk' dx, (∀ b o, b ≠ x → hp.get? b = some o → h'.get? b = some o) → hp.objs.size ≤ dx → dx ≠ x → h'.get? x = some { cls := .ref C, dict := some dx, data := .fields fv } →
      h'.Ns1 dx (fun y => if y = name then some v else none) → R (.ok (.ret .none)) ⟨h', g, d, tk', os⟩) :
    codeAny (model prog w) A (.call (.builtin "object.__setattr__") ⟨[.ref x, .str name tk, v], []⟩) R ⟨hp, g, d, t, os⟩ := by
  have hxs : x ≠ hp.objs.size := Nat.ne_of_lt (Heap.lt_size hx)
  have hcls : Looks (model prog w) hp (classData C) cd := looks_clsIn X hcd
  refine esa_core EB X hx rfl hcd hm ha ?_
  obtain ⟨nm, bs, mro, ns, qn, hd, sn, sb, ab, col, del⟩ := cd
  dsimp only at hh
  subst hh
  unfold storeInOwnDict ownDictForStores
  repeat (first | with_reducible refine store_in_new ?_ ?_ | with_reducible refine wpAny_loadPart_at hx ?_ | with_reducible refine hcls.at ?_ | wp_step)
  · exact ⟨_, #[], _, (Heap.get?_update_ne _ _ _ _ hxs.symm).trans (Heap.get?_push_at rfl rfl), rfl, fun e he => absurd he (by simp), fun _ => rfl⟩
  · intro h' tk' hn' hs
    have hx1 : (hp.push { cls := .type "dict", data := .dict #[] }).get? x = some { cls := .ref C, data := .fields fv } := Heap.get?_push_of_some _ hx
    refine hq h' tk' hp.objs.size (fun b o hb ho => ?_) (Nat.le_refl _) hxs.symm ?_ hn'
    · exact (hs.2 b (Nat.ne_of_lt (Heap.lt_size ho))).trans ((Heap.get?_update_ne _ _ _ _ hb).trans (Heap.get?_push_of_some _ ho))
    · exact (hs.2 x hxs).trans (Heap.get?_update_self _ hx1 rfl)
theorem esa_old {K : Frag} {name : Str} {tk : Tok} {v : Value} {x C dx : Addr} {fv : Array Value} {cd : ClassData} {m0 : Str → Option Value} {nl : List Str} (EB : EBase B nw ini T)
    (X : K.In hp) (hx : hp.get? x = some { cls := .ref C, dict := some dx, data := .fields fv }) (hns : hp.Ns1 dx m0) (hw : Within m0 nl) (hz : nl.length ≤ 1000) (hcd : clsIn K C = some cd) (hm : RefsT T cd.mro) (hh : cd.hasDict = true)
    (ha : findIn K (.ref C) name = some none)
    (hq : ∀ h' tk', (∀ b o, b ≠ dx → hp.get? b = some o → h'.get? b = some o) → h'.Ns1 dx (fun y => if y = name then some v else m0 y) → R (.ok (.ret .none)) ⟨h', g, d, tk', os⟩) :
    codeAny (model prog w) A (.call (.builtin "object.__setattr__") ⟨[.ref x, .str name tk, v], []⟩) R ⟨hp, g, d, t, os⟩ := by
  have hcls : Looks (model prog w) hp (classData C) cd := looks_clsIn X hcd
  refine esa_core EB X hx rfl hcd hm ha ?_
  obtain ⟨nm, bs, mro, ns, qn, hd, sn, sb, ab, col, del⟩ := cd
  dsimp only at hh
  subst hh
  unfold storeInOwnDict ownDictForStores
  repeat (first | with_reducible refine PySem.OEX.store_in_old hns hw hz ?_ | with_reducible refine wpAny_loadPart_at hx ?_ | with_reducible refine hcls.at ?_ | wp_step)
  intro h' tk' hn' hs
  exact hq h' tk' (fun b o hb ho => (hs.2 b hb).trans ho) hn'
end
section
variable {X : Cx} {pins : List (Addr × Obj)} {σ : L2.St} {H : Hp} {s : Shared} {a C dx : Addr} {f : Str} {y : V} {u : Value} {fs : List (Str × V)} {Q : Unit → Shared → Prop} {E : Value → Shared → Prop} {A : Around} {B nw ini : String} {T : List Value}
theorem ExC.cd {K : PySem.W.Frag} (x : ExC K B nw ini T C) : ∃ cd, PySem.W.clsIn K C = some cd ∧ RefsT T cd.mro ∧ cd.hasDict = true := by
  obtain ⟨nm, q, N, bs, bm, sn, sub, ab, col, dd, k0, k1, k2, k3, k5, hC, hbm⟩ := x.cls
  refine ⟨{ name := nm, bases := bs, mro := .ref C :: bm, ns := N, qualname := q, hasDict := true, slotNames := sn, subclasses := sub, abstract := ab, collection := col, hasDel := false }, ?_, .cons hbm, rfl⟩
  unfold PySem.W.clsIn
  rw [hC] <;> rfl
/-- self.f = y, the first field -/
theorem est_new (T' : ExC X.K B nw ini T C) (I : Inv X pins σ H s) (e : H a = some (exo a C none)) (hno : PySem.W.findIn X.K (.ref C) f = some none) (ry : RelV y u)
    (h : ∀ dx s', H dx = none → dx ≠ a → Inv X pins σ (upd (upd H dx (exd dx [(f, y)])) a (exo a C (some dx))) s' → Q () s') : wpAny (model X.prog X.w) A (setAttr (.ref a) f u) Q E s := by
  obtain ⟨cd, hcl, hm, hh⟩ := T'.cd
  obtain ⟨t1, ho⟩ := exo_at I.hok e
  obtain ⟨hp, g, d, t, os⟩ := s
  refine PySem.W.set_plain I.kIn (ox := { cls := .ref C, dict := none, data := .fields #[.ref t1, .none, .none, .none, .bool false, .none] }) (od := none) ⟨ho, rfl, rfl, trivial⟩ T'.sa ?_
  refine esa_new T'.base I.kIn ho hcl hm hh hno (fun h' tk' dx k dn dne hx hn => ?_)
  have hnd : H dx = none := I.hok.fresh dn
  have nd : ∀ {b : Addr} {o : Obj}, hp.get? b = some o → b ≠ dx := fun q => Nat.ne_of_lt (Nat.lt_of_lt_of_le (Heap.lt_size q) dn)
  have na : ∀ {b : Addr}, H b = none → b ≠ a := fun n z => by rw [z, e] at n; cases n
  have U : Un X.fs [] H (upd (upd H dx (exd dx [(f, y)])) a (exo a C (some dx))) hp h' := by
    refine ⟨fun b o q n _ _ => k b o (na n) q, fun b o q n _ _ => ⟨o.slots, k b o (na n) q⟩, fun b o q n _ => by rw [upd_ne (na n), upd_ne (nd q)]; exact n, fun b o q _ => ?_, fun b xs q => ?_, fun b o v q => ?_, fun b ps q => ⟨#[], ?_⟩⟩
    · by_cases hb : b = a
      · exact ⟨_, by rw [hb]; exact hx⟩
      · exact ⟨o, k b o hb q⟩
    · rw [upd_ne (at_ne e q exo_tup), upd_ne (ne_of_none q hnd)]; exact q
    · rw [upd_ne (at_ne e q exo_frz), upd_ne (ne_of_none q hnd)]; exact q
    · rw [upd_ne (at_ne e q exo_tbl), upd_ne (ne_of_none q hnd), q]; simp
  refine h dx _ hnd dne (I.un (t' := tk') U fun b o q => ?_)
  by_cases hb : b = a
  · subst hb
    rw [upd_same] at q; cases q
    exact exo_ok hx
  rw [upd_ne hb] at q
  by_cases hd : b = dx
  · subst hd
    rw [upd_same] at q; cases q
    exact exd_ok hn (relO_put (fs := []) ry fun g => True.intro)
  rw [upd_ne hd] at q
  refine (I.hok b o q).stay (fun c v hc z => k c v ?_ z) (fun c hc => by rw [upd_ne (at_ne e hc exo_own), upd_ne (ne_of_none hc hnd)]; exact hc) fun c xs hc => by rw [upd_ne (at_ne e hc exo_tup), upd_ne (ne_of_none hc hnd)]; exact hc
  rcases hc with hc | hc
  · rw [hc]; exact hb
  · exact at_ne e hc exo_own
/-- self.f = y, a further one -/
theorem est_old (T' : ExC X.K B nw ini T C) (I : Inv X pins σ H s) (e : H a = some (exo a C (some dx))) (ed : H dx = some (exd dx fs)) (hl : fs.length ≤ 900) (hno : PySem.W.findIn X.K (.ref C) f = some none) (ry : RelV y u)
    (h : ∀ s', Inv X pins σ (upd H dx (exd dx ((f, y) :: fs))) s' → Q () s') : wpAny (model X.prog X.w) A (setAttr (.ref a) f u) Q E s := by
  obtain ⟨cd, hcl, hm, hh⟩ := T'.cd
  obtain ⟨t1, ho⟩ := exo_at I.hok e
  obtain ⟨mA, hns, rel⟩ := exd_at I.hok ed
  have hw := within_of rel
  obtain ⟨hp, g, d, t, os⟩ := s
  obtain ⟨oD, _, _, hoD, _, _⟩ := hns.count hw
  refine PySem.W.set_plain I.kIn (ox := { cls := .ref C, dict := some dx, data := .fields #[.ref t1, .none, .none, .none, .bool false, .none] }) (od := some oD) ⟨ho, rfl, rfl, hoD⟩ T'.sa ?_
  refine esa_old T'.base I.kIn ho hns hw (by rw [List.length_map]; omega) hcl hm hh hno (fun h' tk' k hn => ?_)
  obtain ⟨o, _, _, e', _⟩ := id hn
  exact h _ (I.write (t' := tk') (x := dx) (e := dx) (o := exd dx ((f, y) :: fs)) (by rw [ed]; exact True.intro) (.inl rfl) k ⟨o, e'⟩ (exd_ok hn (relO_put ry rel)))
/-- the base's own __init__ -/
theorem eini_ok {us : List Value} {Q : Value → Shared → Prop} (T' : ExC X.K B nw ini T C) (I : Inv X pins σ H s) (e : H a = some (exo a C none)) (hl : us.length ≤ sizeLine) (h : ∀ s', Inv X pins σ H s' → Q .none s') :
    wpAny (model X.prog X.w) A (call (.builtin ini) (.ref a :: us)) Q E s := by
  obtain ⟨nm, q, N, bs, bm, sn, sub, ab, col, dd, k0, k1, k2, k3, k5, hC, hbm⟩ := T'.cls
  obtain ⟨t1, ho⟩ := exo_at I.hok e
  obtain ⟨hp, g, d, t, os⟩ := s
  refine wpAny_call (PySem.HandSPX.init_base T'.base.F (fun Y => hbm.has Y) (I.kIn _ _ hC) ho hl fun h' t2 k hx => ?_)
  have J := I.write (t' := t) (x := a) (e := a) (o := exo a C none) (by rw [e]; exact True.intro) (.inl rfl) k ⟨_, hx⟩ (exo_ok hx)
  have eu : upd H a (exo a C none) = H := by
    funext b
    by_cases hb : b = a
    · rw [hb, upd_same, e]
    · rw [upd_ne hb]
  rw [eu] at J
  exact h _ J
end
/-! ### the __init__ of such a class, as it stands in a text: B.__init__(self, text), self.f = g, .. -/
/-- what it promises: the fields, the last one first -/
def spInit (C : Addr) (names : List Str) : Sp := fun vs H Q _ => ∃ a ws, vs = .ref a :: ws ∧ ws.length = names.length ∧ H a = some (exo a C none) ∧
  ∀ d, H d = none → d ≠ a → Q .non (upd (upd H d (exd d (names.zip ws).reverse)) a (exo a C (some d)))
section
variable {X : Cx} {o e : Expr} {es : List Expr} {to te : TE} {ta : TA} {f : Str} {p p' p1 p2 pos : Pos} {B nw ini : String} {T : List Value} {C : Addr}
/-- B.__init__(self, ..), B an own class or the built-in one -/
def tEI (C : Addr) (ta : TA) : TE := fun σ H Q => ta σ H fun vs H1 => ∃ (a : Addr) (ws : List V), vs = .ref a :: ws ∧ ws.length ≤ 1000 ∧ H1 a = some (exo a C none) ∧ Q .non H1
/-- how the base's name gives its __init__ -/
structure BaseIni (K : PySem.W.Frag) (mg : Mg) (bn : Str) (ini : String) : Prop where
  ex : (∃ D : Addr, mg bn = some (.ref D) ∧ PySem.W.readsIn K D (.type "type") = true ∧ PySem.W.specialIn K (.ref D) "__getattribute__" = some (some (.builtin "type.__getattribute__")) ∧ PySem.W.findCls K (.ref D) (.type "type") "__init__" = some (.val (.builtin ini))) ∨
    (∃ B : String, mg bn = none ∧ bootBuiltins bn = some (.type B) ∧ bn ≠ "__name__" ∧ typeOf (.type B) = pure (.type "type") ∧ Manifest.isStub B = false ∧ PySem.W.findCls K (.type B) (.type "type") "__init__" = some (.val (.builtin ini)))
  hd : PySem.W.handedIn (.builtin ini) = true
theorem pe_eini {pl : Sem Bool} {bn : Str} (TC : ExC X.K B nw ini T C) (BI : BaseIni X.K X.mg bn ini) (hg : Gl X bn) (hdb : (bn == ("__debug__" : Str)) = false) (ha : PA X (e :: es) ta)
    (hc : eval (.Call (.Attribute (.Name bn p1) "__init__" p2) (e :: es) [] pos) X.env = (do
      let ov ← eval (.Name bn p1) X.env
      standAt p2.atName
      let (f, first) ← holding [ov] (getMethod ov "__init__" pl)
      callWith pos f first (backTo pos (starEach (e :: es) X.env)) (backToKw pos (keywordEach [] X.env))) := by rfl)
    (he : starEach (e :: es) X.env = (false, eval e X.env) :: starEach es X.env := by rfl) (hpl : (backTo pos (starEach es X.env)).any (·.1) = false := by rfl) :
    PE X (.Call (.Attribute (.Name bn p1) "__init__" p2) (e :: es) [] pos) (tEI C ta) := by
  refine ⟨fun pins s σ H Q I h => ?_⟩
  have fin : ∀ s0, Inv X pins σ H s0 → wpAny (model X.prog X.w) X.A (callWith pos (Value.builtin ini) [] (backTo pos (starEach (e :: es) X.env)) (backToKw pos (keywordEach [] X.env))) (EP X pins σ Q) X.xe s0 := fun s0 I0 => by
    refine PyProof.Rows.callWith_method1 (thn (ha.run pos pins _ σ H _ I0 h) fun us s1 ⟨vs, H1, I1, r1, a, ws, ev, hl, ea, q⟩ => ?_) he hpl
    subst ev
    cases r1 with
    | @cons _ u0 _ ur ra rw' =>
      obtain rfl : u0 = Value.ref a := ra
      exact eini_ok TC I1 ea (by rw [← Paired.length rw', sizeLine_eq]; omega) fun s' J => ⟨.non, H1, J, rfl, q⟩
  rcases BI.ex with ⟨D, hm, hr, hs, hv⟩ | ⟨B', hm, hv, hn, hty, hst, hf⟩
  · refine PySem.W.methodCall_KW (ld_glob I hg hm ?_ hdb) hc
    exact PySem.W.method_cls I.kIn hs (PySem.W.cls_value I.kIn hr hv BI.hd (fin _ (I.tok _)))
  · refine PySem.W.methodCall_KW (ld_blt I hg hm hv ?_ hn hdb) hc
    obtain ⟨m, fr⟩ := I.fr
    exact PySem.W.method_type fr I.ok.mod.kin hty hst hf BI.hd (fin _ (I.tok _))
/-- self.f = e on the exception at work -/
def tEst (C : Addr) (f : Str) (to te : TE) : TS := fun D σ H => te σ H fun y H1 => to σ H1 fun x H2 => ∃ a : Addr, x = .ref a ∧
  ((H2 a = some (exo a C none) ∧ ∀ dx, H2 dx = none → dx ≠ a → D.nx σ (upd (upd H2 dx (exd dx [(f, y)])) a (exo a C (some dx)))) ∨
    ∃ (dx : Addr) (fs : List (Str × V)), H2 a = some (exo a C (some dx)) ∧ H2 dx = some (exd dx fs) ∧ fs.length ≤ 900 ∧ D.nx σ (upd H2 dx (exd dx ((f, y) :: fs))))
theorem ps_est (TC : ExC X.K B nw ini T C) (hno : PySem.W.findIn X.K (.ref C) f = some none) (ho : PE X o to) (he : PE X e te) (hs : swapsWith e (some (.Attribute o f p')) pos.line X.env = pure false := by rfl) : PS X (.Assign [.Attribute o f p'] e pos) (tEst C f to te) := by
  refine ⟨fun pins s σ H D I h => ?_⟩
  refine plainObj_wpAny_Assign_Attribute (thn (he.run pins s σ H _ I h) fun v s1 ⟨y, H1, I1, r1, q1⟩ => thn (ho.run pins s1 σ H1 _ I1 q1) fun u s2 ⟨x, H2, I2, r2, a, ex, q⟩ => ?_) hs
  subst ex
  obtain rfl : u = Value.ref a := r2
  rcases q with ⟨ea, q⟩ | ⟨dx, fs, ea, ed, hl, q⟩
  · exact est_new TC I2 ea hno r1 fun dx s' n ne J => ⟨σ, _, J, q dx n ne⟩
  · exact est_old TC I2 ea ed hl hno r1 fun s' J => ⟨σ, _, J, q⟩
end
end Lw

namespace Lw
open PySem PySem.Spec PyProof.Rows L2

/-! ### making and raising an own exception -/
section
variable {P : Program} {w : World} {K : PySem.W.Frag} {mg : Mg} {base : Heap} {qual : Str} {params : Arguments} {bd : List Stmt} {scope : Scope} {fI C : Addr} {fd : FuncData}
theorem ok_ini1 {g tx : Str} (F : FunD K "__init__" qual params bd scope [] [] fI fd) (S : FnScope ["self", g] ["self", g] scope)
    (hb : ∀ (cdv : Value) (A : Around) (outer : List Env) (s : Shared) (H : Hp) (E : XK), PSs (cxOf CX0 P w K mg base ["self", g] qual scope fI cdv A outer s H E).nox bd
      (tSeq (tDrop (tEI C (tCons (tVar 0) (tCons (tC (.str tx)) tNil)))) (tEst C g (tVar 0) (tVar 1)))) :
    FnOk P w K mg base CX0 1 fI fd ["self", g] (spInit C [g]) := by
  refine F.ok S (fun vs H Q E h => ?_) fun cdv A outer s H vs Q E hr h => ⟨_, (hb cdv A outer s H E).nox, ?_⟩
  · obtain ⟨a, ws, rfl, hl, _⟩ := h
    show ws.length + 1 = 2
    rw [hl]; rfl
  · obtain ⟨a, ws, rfl, hl, ha, hq⟩ := h
    match ws, hl with
    | [v], _ => exact ⟨.ref a, rfl, a, [V.str tx], rfl, (show 1 ≤ 1000 by decide), ha, v, rfl, .ref a, rfl, a, rfl, .inl ⟨ha, fun dx hd ne => hq dx hd ne⟩⟩
theorem ok_ini2 {g g2 tx : Str} (F : FunD K "__init__" qual params bd scope [] [] fI fd) (S : FnScope ["self", g, g2] ["self", g, g2] scope)
    (hb : ∀ (cdv : Value) (A : Around) (outer : List Env) (s : Shared) (H : Hp) (E : XK), PSs (cxOf CX0 P w K mg base ["self", g, g2] qual scope fI cdv A outer s H E).nox bd
      (tSeq (tDrop (tEI C (tCons (tVar 0) (tCons (tC (.str tx)) tNil)))) (tSeq (tEst C g (tVar 0) (tVar 1)) (tEst C g2 (tVar 0) (tVar 2))))) :
    FnOk P w K mg base CX0 1 fI fd ["self", g, g2] (spInit C [g, g2]) := by
  refine F.ok S (fun vs H Q E h => ?_) fun cdv A outer s H vs Q E hr h => ⟨_, (hb cdv A outer s H E).nox, ?_⟩
  · obtain ⟨a, ws, rfl, hl, _⟩ := h
    show ws.length + 1 = 3
    rw [hl]; rfl
  · obtain ⟨a, ws, rfl, hl, ha, hq⟩ := h
    match ws, hl with
    | [v, v2], _ =>
      refine ⟨.ref a, rfl, a, [V.str tx], rfl, (show 1 ≤ 1000 by decide), ha, v, rfl, .ref a, rfl, a, rfl, .inl ⟨ha, fun dx hd ne => ?_⟩⟩
      refine ⟨v2, rfl, .ref a, rfl, a, rfl, .inr ⟨dx, [(g, v)], upd_same, ?_, (show 1 ≤ 900 by decide), ?_⟩⟩
      · rw [upd_ne ne]; exact upd_same
      · have z := hq dx hd ne
        have e : upd (upd (upd H dx (exd dx [(g, v)])) a (exo a C (some dx))) dx (exd dx [(g2, v2), (g, v)]) = upd (upd H dx (exd dx [(g2, v2), (g, v)])) a (exo a C (some dx)) := by
          funext b
          by_cases h1 : b = dx
          · subst h1; rw [upd_same, upd_ne ne, upd_same]
          · rw [upd_ne h1]
            by_cases h2 : b = a
            · subst h2; rw [upd_same, upd_same]
            · rw [upd_ne h2, upd_ne h2, upd_ne h1, upd_ne h1]
        rw [e]
        exact z
end
/-- an own exception class as it may be raised: its fields -/
structure XCls (X : Cx) (cn : Str) (C : Addr) (names : List Str) : Prop where
  ex : ∃ B nw ini T fI fd ps, ExC X.K B nw ini T C ∧ PySem.W.findIn X.K (.ref C) "__init__" = some (some (.ref fI)) ∧ PySem.W.typeIn X.K (.ref fI) = some (.type "function") ∧
    FnOk X.prog X.w X.K X.mg X.base CX0 1 fI fd ps (spInit C names) ∧ Binds X.K fd ps [] ∧ names.length ≤ 900
  mg : X.mg cn = some (.ref C)
section
variable {X : Cx} {c : Cn} {e : Expr} {es : List Expr} {mr : MA} {ta : TA} {p pos : Pos} {cn : Str} {C : Addr} {names : List Str}
theorem pmk_ex (T : XCls X cn C names) (hr : Room 2 X.A) (hg : Gl X cn) (ha : PA X (e :: es) ta) (hdb : (cn == ("__debug__" : Str)) = false := by decide)
    (he : starEach (e :: es) X.env = (false, eval e X.env) :: starEach es X.env := by rfl) (hpl : (backTo pos (starEach es X.env)).any (·.1) = false := by rfl) :
    PMk X (.Call (.Name cn p) (e :: es) [] pos) (tMkO C (spInit C names) [] ta) := by
  intro pins s σ H Q I h
  obtain ⟨B, nw, ini, T', fI, fd, ps, TC, iC, tI, F1, hb, _⟩ := T.ex
  obtain ⟨nm, q, N, bs, bm, sn, sub, ab, col, dd, k0, k1, k2, k3, k5, hC, hbm⟩ := TC.cls
  refine wpAny_Call_Name_kw (ld_glob I hg T.mg ?_ hdb)
  refine PySem.W.callWith_K (h₀ := X.base) I.ok.mod.kin TC.kC (thn (ha.run pos pins s σ H _ I h) fun us s1 ⟨vs, H1, I1, r1, hz, q1⟩ => ⟨I1.kIn, ?_⟩) he hpl
  show wpAny _ _ (call (.ref C) us) _ _ _
  obtain ⟨hp, g, dr, tk, os⟩ := s1
  have hsz : hp.objs.size ≤ hp.objs.size + 1 := Nat.le_succ _
  have hn : H1 (hp.objs.size + 1) = none := I1.hok.fresh hsz
  have hq := q1 (hp.objs.size + 1) hn
  rw [List.append_nil] at hq
  have kk : ∀ b o, hp.get? b = some o → ((hp.push (PySem.W.kdv_tup us)).push (PySem.HandSPX.excO C hp.objs.size)).get? b = some o := fun b o e => Heap.get?_push_of_some _ (Heap.get?_push_of_some _ e)
  have hget : ((hp.push (PySem.W.kdv_tup us)).push (PySem.HandSPX.excO C hp.objs.size)).get? (hp.objs.size + 1) = some (PySem.HandSPX.excO C hp.objs.size) := by heap_get
  have I2 := I1.laid (t' := tk) (a := hp.objs.size + 1) (o := exo (hp.objs.size + 1) C none) (h' := (hp.push (PySem.W.kdv_tup us)).push (PySem.HandSPX.excO C hp.objs.size)) kk hsz (exo_ok hget)
  have r2 : Vals (V.ref (hp.objs.size + 1) :: vs) (Value.ref (hp.objs.size + 1) :: us) := .cons rfl r1
  have hl : ((Value.ref (hp.objs.size + 1) :: us) ++ []).length = ps.length := by
    rw [List.append_nil]
    exact r2.length.symm.trans (F1.len _ _ _ _ hq)
  have hus : us.length ≤ sizeLine := by rw [← Paired.length r1, sizeLine_eq]; omega
  have bi := hb _ (Value.ref (hp.objs.size + 1) :: us) I2.kIn hl
  rw [List.append_nil] at bi
  refine wpAny_call (PySem.HandSPX.call_own TC.base.F (fun Y => hbm.has Y) (I1.kIn _ _ hC) (PySem.W.looks_findIn I1.kIn iC) (fun self => PySem.W.bind_fn I1.kIn self tI) hus
    (codeAny_mono (F1.run _ X.stack _ _ ⟨Value.ref (hp.objs.size + 1) :: us, []⟩ _ _ _ (fun _ _ _ => False) (hr.make C us []) (I2.env0.make C us []) bi r2 hq) fun rs s' hq' => ?_))
  cases rs with
  | error er => exact (show False from hq').elim
  | ok fl =>
    cases fl with
    | ret u =>
      obtain ⟨v, H2, os2, bare2, un2, hok2, rv, ev, d, fs, ea, ed, hd1, q2⟩ := hq'
      subst ev
      obtain ⟨h2, g2, d2, t2, os'⟩ := s'
      exact ⟨rv, mk_end (raises_own TC.exC TC.tyC) I1 hsz kk un2 hok2 os2 bare2 ea ed hd1 q2⟩
    | next => exact hq'.elim
    | brk => exact hq'.elim
    | cont => exact hq'.elim
/-- raise cn(e, ..) -/
def mRaise (cn : Str) (names : List Str) (m : MA) : MS := fun md sd S => m sd S (fun ds S1 => ds.length = names.length ∧ md.ex ⟨cn, (names.zip ds).reverse⟩ sd S1) (fun e S1 => md.ex e sd S1)
theorem relFs_append {K : PySem.W.Frag} {mg : Mg} {r : List Addr} {H : Hp} {fs gs : List (Str × D)} {vs ws : List (Str × V)} (h : RelFs K mg r H fs vs) (h2 : RelFs K mg r H gs ws) : RelFs K mg r H (fs ++ gs) (vs ++ ws) := by
  induction h with
  | nil => exact h2
  | cons a _ ih => exact .cons a ih
theorem relFs_zip {K : PySem.W.Frag} {mg : Mg} {r : List Addr} {H : Hp} : ∀ {names : List Str} {ds : List D} {vs : List V}, RelDs K mg r H ds vs → RelFs K mg r H (names.zip ds).reverse (names.zip vs).reverse
  | [], _, _, _ => .nil
  | _ :: _, _, _, .nil => .nil
  | n :: ns, _, _, .cons h q => by
    simp only [List.zip_cons_cons, List.reverse_cons]
    exact relFs_append (relFs_zip q) (.cons h .nil)
theorem ms_raise {pos2 : Pos} (T : XCls X cn C names) (hc : X.calm = true) (co : CallOk X c 2) (hg : Gl X cn) (ha : PA X (e :: es) (tA c mr)) (hdb : (cn == ("__debug__" : Str)) = false := by decide)
    (he : starEach (e :: es) X.env = (false, eval e X.env) :: starEach es X.env := by rfl) (hpl : (backTo pos (starEach es X.env)).any (·.1) = false := by rfl) :
    PS X (.Raise (some (.Call (.Name cn p) (e :: es) [] pos)) none pos2) (tS c (mRaise cn names mr)) := weakS (ps_raise hc co.tk (pmk_ex T co.room hg ha hdb he hpl)) fun D s H z => by
  obtain ⟨r, S, sd, md, a, hm, g⟩ := z
  obtain ⟨_, _, _, _, _, _, _, _, _, _, _, _, hn9⟩ := T.ex
  refine ⟨r, S, sd, _, _, a, hm, fun ds S1 r1 vs H1 h1 t1 sm1 rd1 => ?_, goX_of g a.rel⟩
  obtain ⟨hl, h1⟩ := h1
  refine ⟨by rw [← rd1.length, hl]; omega, fun x hx => ?_⟩
  refine ⟨x, vs, by rw [List.append_nil], by rw [← rd1.length, hl], upd_same, fun d hd ne => ?_⟩
  have hd0 : H1 d = none := by rw [upd_ne ne] at hd; exact hd
  refine ⟨rfl, d, _, upd_same, by rw [upd_ne ne]; exact upd_same, hd0, ?_⟩
  have e3 : upd (del (upd (upd (upd H1 x (exo x C none)) d (exd d (names.zip vs).reverse)) x (exo x C (some d))) x) d (.xd (names.zip vs).reverse) = upd H1 d (.xd (names.zip vs).reverse) := by
    funext b
    by_cases h1 : b = d
    · subst h1; rw [upd_same, upd_same]
    · rw [upd_ne h1, upd_ne h1]
      by_cases h2 : b = x
      · subst h2; rw [del_same, hx]
      · rw [del_ne h2, upd_ne h2, upd_ne h1, upd_ne h2]
  rw [e3]
  have t2 : Stp r1 H1 r1 (upd H1 d (.xd (names.zip vs).reverse)) := Stp.laid hd0
  exact g.ex _ sd S1 r1 s _ _ _ h1 (t1.trans t2) (sm1.laid hd0) ((a.rel.mono t1).mono t2) (.own (by rw [co.mg]; exact T.mg) upd_same ((relFs_zip rd1).mono t2))
end
/-! ### try .. except .. -/
/-- what the clauses wish of an exception of the body -/
def wClauses (K : PySem.W.Frag) (Wout : WX) (D : Ends) : List (Value × Option Nat × (Addr → Value → Option Addr → TS)) → WX
  | [] => Wout
  | (c, none, ts) :: l => fun cls d σ H => ∃ b, PySem.W.exmOne K cls c = some b ∧ (b = true → ∀ a, H a = none → ts a cls d D σ H) ∧ (b = false → wClauses K Wout D l cls d σ H)
  | (c, some i, ts) :: l => fun cls d σ H => ∃ b, PySem.W.exmOne K cls c = some b ∧
      (b = true → ∀ a, H a = none → ts a cls d { nx := fun σ' H' => D.nx (σ'.set i none) H', rt := D.rt, bk := fun σ' H' => D.bk (σ'.set i none) H', ct := fun σ' H' => D.ct (σ'.set i none) H' } (σ.set i (some (.ref a))) H) ∧
      (b = false → wClauses K Wout D l cls d σ H)
inductive ClausesOk (X : Cx) : List ExceptHandler → List (Value × Option Nat × (Addr → Value → Option Addr → TS)) → Prop
  | nil : ClausesOk X [] []
  | bare {x : Str} {c : Value} {ts : Addr → Value → Option Addr → TS} {b0 : Stmt} {suite : List Stmt} {np pos' : Pos} {hds : List ExceptHandler} {l : List (Value × Option Nat × (Addr → Value → Option Addr → TS))} (hc : Names X x c)
      (hsu : ∀ (a : Addr) (oe : Obj) (cls : Value) (d : Option Addr) (pn : List (Addr × Obj)), Zc cls d oe → (∃ vs, oe.data = .fields vs) → PSs (X.suite a ((a, oe) :: pn)) (b0 :: suite) (ts a cls d)) (r : ClausesOk X hds l) :
      ClausesOk X (.ExceptHandler (some (.Name x np)) none (b0 :: suite) pos' :: hds) ((c, none, ts) :: l)
  | named {x n : Str} {i : Nat} {c : Value} {ts : Addr → Value → Option Addr → TS} {b0 : Stmt} {suite : List Stmt} {np pos' : Pos} {hds : List ExceptHandler} {l : List (Value × Option Nat × (Addr → Value → Option Addr → TS))} (hc : Names X x c)
      (hi : X.N[i]? = some n) (hln : X.env.kindOf n = some .local)
      (hsu : ∀ (a : Addr) (oe : Obj) (cls : Value) (d : Option Addr) (pn : List (Addr × Obj)), Zc cls d oe → (∃ vs, oe.data = .fields vs) → PSs (X.suite a ((a, oe) :: pn)) (b0 :: suite) (ts a cls d)) (r : ClausesOk X hds l) :
      ClausesOk X (.ExceptHandler (some (.Name x np)) (some n) (b0 :: suite) pos' :: hds) ((c, some i, ts) :: l)
section
variable {X : Cx} {body : List Stmt} {h0 : ExceptHandler} {hds : List ExceptHandler} {l : List (Value × Option Nat × (Addr → Value → Option Addr → TS))} {pos : Pos} {tb : WX → TS} {Wout : WX}
theorem ps_clauses (hs : X.stack = X.env :: X.outer) (hf : X.env.frame = some X.env.locals) (hN : X.N.Nodup) (tk : Takes X Wout)
    (hb : ∀ (W : WX) (pn : List (Addr × Obj)) (xe : Value → Shared → Prop), Takes (X.tr pn xe) W → PassesOwn (model X.prog X.w) X.A X.env xe → PSs (X.tr pn xe) body (tb W))
    (hh : ClausesOk X (h0 :: hds) l) : PS X (.Try body (h0 :: hds) [] [] pos) (fun D σ H => tb (wClauses X.K Wout D l) D σ H) := by
  refine ⟨fun pins s σ H D I h => ?_⟩
  have ok := I.ok
  have hfr : X.A.frames = some (X.env :: X.outer) := by rw [ok.frames, hs]
  let xe1 : Value → Shared → Prop := fun e s1 => wpAny (model X.prog X.w) X.A (noteFrame e X.env) (fun _ s2 => wpAny (model X.prog X.w) X.A (setFlight e none) (fun _ s3 => wpAny (model X.prog X.w) X.A (handleBy e X.env (h0 :: hds)) (SP X pins D) X.xe s3) X.xe s2) X.xe s1
  have tk1 : Takes (X.tr (X.pn ++ pins) xe1) (wClauses X.K Wout D l) := by
    intro u s' xx
    obtain ⟨a, B, sI, pins', σ', H', cls, d, rfl, J', nb, up, sky, na, os, ag, w⟩ := xx
    have J : Inv X pins σ' H' sI := J'.ofTry ok
    have sk : Sky B (X.env :: X.outer) a (Zc cls d) X.env.locals s'.heap := by rw [← hs]; exact sky
    show wpAny (model X.prog X.w) X.A (noteFrame (.ref a) X.env) _ _ _
    refine Sky.land Zc.steady hfr hf sk fun h3 fl3 up3 => ?_
    have J3 : Inv X pins σ' H' { s' with heap := h3 } := J.landed nb fl3.1 (up.trans up3) os ag
    obtain ⟨oe3, vs3, he3, hz3, hd3⟩ := fl3.there
    have nfr : a ∉ frs (X.env :: X.outer) := fun hm => by
      obtain ⟨_, o', e', hnf⟩ := (show h3.FunFrames B (X.env :: X.outer) from fl3.2.2.1).mem hm
      rw [he3] at e'; cases e'
      exact hnf _ hd3
    have nL : a ≠ X.env.locals := fun z => nfr (List.mem_filterMap.mpr ⟨X.env, List.mem_cons_self, by rw [hf, z]⟩)
    have nF : a ∉ X.fs := fun hm => by
      obtain ⟨e, he, q⟩ := List.mem_filterMap.mp hm
      exact nfr (List.mem_filterMap.mpr ⟨e, List.mem_cons_of_mem _ he, q⟩)
    have S3 := J3.suite he3 hd3 na nL nF
    have LT : PySem.W.Looks (model X.prog X.w) h3 (typeOf (.ref a)) cls := fun A Q E s k q => wpAny_typeOf_ref (k _ _ he3) (by rw [hz3.1]; exact q)
    have tst : ∀ {x : Str} {np : Pos} {c : Value} {Q : Value → Shared → Prop} {E : Value → Shared → Prop}, Names X x c → Q c { s' with heap := h3 } → wpAny (model X.prog X.w) (X.A.mark (some (.ref a))) (eval (.Name x np) X.env) Q E { s' with heap := h3 } := fun {x np c Q E} hc q => by
      obtain ⟨hg, hdbg, hm | ⟨hm, hv, hnn⟩⟩ := hc
      · exact ld_glob (X := X.suite a ((a, oe3) :: (X.pn ++ pins))) S3 hg hm q hdbg
      · exact ld_blt (X := X.suite a ((a, oe3) :: (X.pn ++ pins))) S3 hg hm hv q hnn hdbg
    have go : ∀ {hds' : List ExceptHandler} {l' : List (Value × Option Nat × (Addr → Value → Option Addr → TS))}, ClausesOk X hds' l' → wClauses X.K Wout D l' cls d σ' H' →
        wpAny (model X.prog X.w) X.A (handleBy (.ref a) X.env hds') (SP X pins D) X.xe { s' with heap := h3 } := by
      intro hds' l' hk
      induction hk with
      | nil =>
        intro w
        refine wpAny_handleBy_nil ?_
        obtain ⟨k1, k2, k3, oe, vs, T, oT, ts', he, hz, hd, h1, hr⟩ := id fl3
        unfold PySem.passOn
        refine wpAny_bind (wpAny_field he hd h1 ?_)
        rw [if_neg (show ¬ ((Value.ref T == Value.none) = true) from by simp)]
        have fin : wpAny (model X.prog X.w) X.A (setFlight (.ref a) X.env.frame) (fun _ s4 => wpAny (model X.prog X.w) X.A (throw (.ref a) : Sem Flow) (SP X pins D) X.xe s4) X.xe { s' with heap := h3 } := by
          rw [hf]
          refine HandSPX.setFlight_upZ fl3 fun h4 hh4 up4 => wpAny_throw (tk _ _ ?_)
          exact ⟨a, B, sI, pins, σ', H', cls, d, rfl, J, nb, (up.trans up3).trans up4, .inr (.inr (by rw [hs]; exact hh4)), na, os, ag, w⟩
        first
          | exact wpAny_bind (wpAny_pure (wpAny_bind fin))
          | exact wpAny_bind fin
      | @bare x c ts b0 suite np pos' hds2 l2 hc hsu r ih =>
        intro w
        obtain ⟨b, hb1, hyes, hno⟩ := w
        refine wpAny_handleBy_cons (codeAny_handlers_test ?_) (by intro q; cases q)
        refine tst hc ((PySem.W.exm_one (M := model X.prog X.w) J3.kIn LT hb1).here ?_)
        cases b with
        | false => exact ih (hno rfl)
        | true =>
          refine codeAny_handlers_suite ?_
          refine HandSPX.lands_againZ fl3 fun h4 fl4 up4 => ?_
          have J4 : Inv X pins σ' H' { s' with heap := h4 } := J.landed nb fl4.1 ((up.trans up3).trans up4) os ag
          obtain ⟨oe4, vs4, he4, hz4, hd4⟩ := fl4.there
          refine wpAny_mono ((hsu a oe4 cls d (X.pn ++ pins) hz4 ⟨_, hd4⟩).run [] _ _ H' _ (J4.suite he4 hd4 na nL nF) (hyes rfl a na)) (fun f s6 hsp => ?_) (fun _ _ z => False.elim z)
          cases f with
          | next => exact let ⟨_, _, S6, q6⟩ := hsp; ⟨_, _, S6.unsuite ok, q6⟩
          | brk => exact let ⟨_, _, S6, q6⟩ := hsp; ⟨_, _, S6.unsuite ok, q6⟩
          | cont => exact let ⟨_, _, S6, q6⟩ := hsp; ⟨_, _, S6.unsuite ok, q6⟩
          | ret u => exact let ⟨_, _, _, S6, r6, q6⟩ := hsp; ⟨_, _, _, S6.unsuite ok, r6, q6⟩
      | @named x n i c ts b0 suite np pos' hds2 l2 hc hi hln hsu r ih =>
        intro w
        obtain ⟨b, hb1, hyes, hno⟩ := w
        refine wpAny_handleBy_cons (codeAny_handlers_test ?_) (by intro q; cases q)
        refine tst hc ((PySem.W.exm_one (M := model X.prog X.w) J3.kIn LT hb1).here ?_)
        cases b with
        | false => exact ih (hno rfl)
        | true =>
          refine codeAny_handlers_suite_as ?_
          refine HandSPX.lands_againZ fl3 fun h4 fl4 up4 => ?_
          have J4 : Inv X pins σ' H' { s' with heap := h4 } := J.landed nb fl4.1 ((up.trans up3).trans up4) os ag
          obtain ⟨oe4, vs4, he4, hz4, hd4⟩ := fl4.there
          refine store_ok (X := X.suite a ((a, oe4) :: (X.pn ++ pins))) (v := .ref a) (J4.suite he4 hd4 na nL nF) hN hi (.inl hln) rfl (fun s5 S5 => ?_) (.inr hln)
          refine wpAny_mono ((hsu a oe4 cls d (X.pn ++ pins) hz4 ⟨_, hd4⟩).run [] s5 _ H' _ S5 (hyes rfl a na)) (fun f s6 hsp => ?_) (fun _ _ z => False.elim z)
          have gone : ∀ {σ6 : L2.St} {H6 : Hp} {Q : Shared → Prop}, Inv (X.suite a ((a, oe4) :: (X.pn ++ pins))) [] σ6 H6 s6 → (∀ s7, Inv X pins (σ6.set i none) H6 s7 → Q s7) →
              wpAny (model X.prog X.w) X.A (do bindName X.env n .none; unbindBehindTheSuite X.env n pos') (fun _ s7 => Q s7) X.xe s6 := fun {σ6 H6 Q} S6 hq => gone_ok (S6.unsuite ok) hN hi hln hq
          cases f with
          | next => exact let ⟨_, _, S6, q6⟩ := hsp; gone S6 fun s7 J7 => ⟨_, _, J7, q6⟩
          | brk => exact let ⟨_, _, S6, q6⟩ := hsp; gone S6 fun s7 J7 => ⟨_, _, J7, q6⟩
          | cont => exact let ⟨_, _, S6, q6⟩ := hsp; gone S6 fun s7 J7 => ⟨_, _, J7, q6⟩
          | ret u => exact let ⟨_, _, _, S6, r6, q6⟩ := hsp; gone S6 fun s7 J7 => ⟨_, _, _, J7, r6, q6⟩
    exact go hh w
  refine wpAny_Try_except (wpAny_mono ((hb (wClauses X.K Wout D l) (X.pn ++ pins) xe1 tk1 PassesOwn.looking).run [] s σ H D (I.toTry _) h) (fun f s1 hsp => ?_) (fun e s1 he => he))
  cases f with
  | next => exact let ⟨_, _, J', q⟩ := hsp; wpAny_execs_nil ⟨_, _, J'.ofTry ok, q⟩
  | brk => exact let ⟨_, _, J', q⟩ := hsp; ⟨_, _, J'.ofTry ok, q⟩
  | cont => exact let ⟨_, _, J', q⟩ := hsp; ⟨_, _, J'.ofTry ok, q⟩
  | ret u => exact let ⟨_, _, _, J', r, q⟩ := hsp; ⟨_, _, _, J'.ofTry ok, r, q⟩
end
/-- a clause: which classes it takes, the name's slot, the suite -/
structure Cls where
  tab : List (Str × Bool)
  slot : Option Nat
  suite : Exc → Addr → MS
def outS (i : Option Nat) (sd : Sg) : Sg := match i with
  | some i => sd.set i none
  | none => sd
def inS (i : Option Nat) (a : Addr) (sd : Sg) : Sg := match i with
  | some i => sd.set i (some (.adr a))
  | none => sd
def tryH (md : MEnds) : List Cls → Exc → Sg → Sto → Prop
  | [], x, sd, S => md.ex x sd S
  | k :: ks, x, sd, S => match k.tab.lookup x.c with
    | some true => ∀ a : Addr, k.suite x a { md with nx := fun sd' S' => md.nx (outS k.slot sd') S', bk := fun sd' S' => md.bk (outS k.slot sd') S', ct := fun sd' S' => md.ct (outS k.slot sd') S', ex := fun _ _ _ => False } (inS k.slot a sd) S
    | some false => tryH md ks x sd S
    | none => False
def mTry (b : MS) (ks : List Cls) : MS := fun md sd S => b { md with ex := tryH md ks } sd S
/-- the place within a suite that holds the exception x -/
abbrev Cn.suite (c : Cn) (x : Exc) (cls : Value) (d : Option Addr) : Cn := ⟨c.K, c.mg, fun r H => RelX c.K c.mg r H x cls d, fun t h => h.mono t, fun _ _ _ _ => False⟩
/-- the clauses over trees and those of the layer -/
inductive ClsRel (X : Cx) (c : Cn) : List ExceptHandler → List Cls → Prop
  | nil : ClsRel X c [] []
  | cons {x : Str} {v : Value} {n : Option Str} {np pos' : Pos} {b0 : Stmt} {suite : List Stmt} {hds : List ExceptHandler} {k : Cls} {ks : List Cls} (hc : Names X x v)
      (hn : (n = none ∧ k.slot = none) ∨ ∃ y i, n = some y ∧ k.slot = some i ∧ X.N[i]? = some y ∧ X.env.kindOf y = some .local)
      (ht : ∀ (cn : Str) (b : Bool) (cls : Value), k.tab.lookup cn = some b → (∃ (r : List Addr) (H : Hp) (fs : List (Str × D)) (d : Option Addr), RelX c.K c.mg r H ⟨cn, fs⟩ cls d) → PySem.W.exmOne c.K cls v = some b)
      (hs : ∀ (e : Exc) (a : Addr) (oe : Obj) (cls : Value) (d : Option Addr) (pn : List (Addr × Obj)), Zc cls d oe → (∃ vs, oe.data = .fields vs) → PSs (X.suite a ((a, oe) :: pn)) (b0 :: suite) (tS (c.suite e cls d) (k.suite e a))) (r : ClsRel X c hds ks) :
      ClsRel X c (.ExceptHandler (some (.Name x np)) n (b0 :: suite) pos' :: hds) (k :: ks)
theorem outS_rel {K : PySem.W.Frag} {mg : Mg} {r : List Addr} {H : Hp} {sd : Sg} {s : L2.St} {i : Nat} {v : Option V} (g : RelG K mg r H sd s) : RelG K mg r H (sd.set i none) (s.set i v) := by
  refine ⟨by simp [g.len], fun j d h => ?_⟩
  by_cases e : i = j
  · subst e
    by_cases hl : i < sd.length
    · rw [List.getElem?_set_self hl] at h; cases h
    · rw [List.getElem?_eq_none (by simpa using hl)] at h; cases h
  · rw [List.getElem?_set_ne e] at h
    obtain ⟨u, hu, ru⟩ := g.at_ j d h
    exact ⟨u, by rw [List.getElem?_set_ne e]; exact hu, ru⟩
section
variable {X : Cx} {c : Cn} {body : List Stmt} {h0 : ExceptHandler} {hds : List ExceptHandler} {ks : List Cls} {pos : Pos} {b : MS}
/-- the body's wish as the clauses' -/
theorem tryW {hs : List ExceptHandler} (h : ClsRel X c hs ks) (hK : c.K = X.K) : ∃ l, ClausesOk X hs l ∧ ∀ (D : Ends) (e : Exc) (r : List Addr) (H : Hp) (md : MEnds) (sd : Sg) (S : Sto) (s : L2.St) (cls : Value) (dd : Option Addr),
    c.Sm r H S → RelG c.K c.mg r H sd s → c.Rx r H e cls dd → EOk c r H md D → tryH md ks e sd S → wClauses X.K c.W D l cls dd s H := by
  induction h with
  | nil => exact ⟨[], .nil, fun D e r H md sd S s cls dd sm rl rx g h => g.ex e sd S r s H cls dd h Stp.refl sm rl rx⟩
  | @cons x v n np pos' b0 suite hds k ks hc hn ht hs hr ih =>
    obtain ⟨l, hl, hw⟩ := ih
    let ts : Addr → Value → Option Addr → TS := fun a cls d D s H => ∃ e, RelX c.K c.mg [] H e cls d ∧ False ∨ ∃ e, tS (c.suite e cls d) (k.suite e a) D s H
    have hsu : ∀ (a : Addr) (oe : Obj) (cls : Value) (d : Option Addr) (pn : List (Addr × Obj)), Zc cls d oe → (∃ vs, oe.data = .fields vs) → PSs (X.suite a ((a, oe) :: pn)) (b0 :: suite) (ts a cls d) := fun a oe cls d pn z f =>
      ⟨fun pins s σ H D I q => by
        obtain ⟨e0, q⟩ := q
        rcases q with ⟨_, q⟩ | ⟨e, q⟩
        · exact q.elim
        · exact (hs e a oe cls d pn z f).run pins s σ H D I q⟩
    rcases hn with ⟨rfl, hsl⟩ | ⟨y, i, rfl, hsl, hi, hln⟩
    · refine ⟨(v, none, ts) :: l, .bare hc hsu hl, fun D e r H md sd S s cls dd sm rl rx g h => ?_⟩
      unfold tryH at h
      rw [hsl] at h
      split at h
      · rename_i hb
        refine ⟨true, by rw [← hK]; exact ht _ _ _ hb ⟨r, H, e.fs, dd, rx⟩, fun _ a na => ⟨e, .inr ⟨e, r, S, sd, _, ⟨sm, rl, rx⟩, h a, ?_⟩⟩, fun z => (by cases z)⟩
        exact ⟨g.nx, g.rt, g.bk, g.ct, fun _ _ _ _ _ _ _ _ z => z.elim⟩
      · rename_i hb
        exact ⟨false, by rw [← hK]; exact ht _ _ _ hb ⟨r, H, e.fs, dd, rx⟩, fun z => (by cases z), fun _ => hw D e r H md sd S s cls dd sm rl rx g h⟩
      · exact h.elim
    · refine ⟨(v, some i, ts) :: l, .named hc hi hln hsu hl, fun D e r H md sd S s cls dd sm rl rx g h => ?_⟩
      unfold tryH at h
      rw [hsl] at h
      split at h
      · rename_i hb
        refine ⟨true, by rw [← hK]; exact ht _ _ _ hb ⟨r, H, e.fs, dd, rx⟩, fun _ a na => ⟨e, .inr ⟨e, r, S, sd.set i (some (.adr a)), _, ⟨sm, rl.put (.adr a), rx⟩, h a, ?_⟩⟩, fun z => (by cases z)⟩
        exact ⟨fun sd' S' r' s' H' h t sm' rl' => g.nx _ S' r' _ H' h t sm' (outS_rel rl'), g.rt, fun sd' S' r' s' H' h t sm' rl' => g.bk _ S' r' _ H' h t sm' (outS_rel rl'), fun sd' S' r' s' H' h t sm' rl' => g.ct _ S' r' _ H' h t sm' (outS_rel rl'), fun _ _ _ _ _ _ _ _ z => z.elim⟩
      · rename_i hb
        exact ⟨false, by rw [← hK]; exact ht _ _ _ hb ⟨r, H, e.fs, dd, rx⟩, fun z => (by cases z), fun _ => hw D e r H md sd S s cls dd sm rl rx g h⟩
      · exact h.elim
theorem ms_try (hs : X.stack = X.env :: X.outer) (hf : X.env.frame = some X.env.locals) (hN : X.N.Nodup) (tk : Takes X c.W) (hK : c.K = X.K)
    (hb : ∀ (W : WX) (pn : List (Addr × Obj)) (xe : Value → Shared → Prop), Takes (X.tr pn xe) W → PassesOwn (model X.prog X.w) X.A X.env xe → PSs (X.tr pn xe) body (tS ⟨c.K, c.mg, c.P, c.st, W⟩ b))
    (hh : ClsRel X c (h0 :: hds) ks) : PS X (.Try body (h0 :: hds) [] [] pos) (tS c (mTry b ks)) := by
  obtain ⟨l, hl, hw⟩ := tryW hh hK
  refine weakS (ps_clauses hs hf hN tk hb hl) fun D s H z => ?_
  obtain ⟨r, S, sd, md, a, hm, g⟩ := z
  refine ⟨r, S, sd, { md with ex := tryH md ks }, ⟨a.sim, a.rel, a.hyp⟩, hm, ⟨g.nx, g.rt, g.bk, g.ct, fun e sd' S' r' s' H' cls dd h t sm rl rx => ?_⟩⟩
  exact hw D e r' H' md sd' S' s' cls dd sm rl rx (g.step t) h
/-- n.f in a suite that holds the exception x, at a, under the name n in the slot i -/
def mExcF (x : Exc) (a : Addr) (i : Nat) (f : Str) : ME := fun sd S q _ => match sd[i]? with
  | some (some (.adr b)) => b = a ∧ (match x.fs.lookup f with
    | some d => q d S
    | none => False)
  | _ => False
/-- what the written part says of a class of which fields are read in a suite -/
structure ExR (K : PySem.W.Frag) (mg : Mg) (cn f : Str) : Prop where
  ex : ∃ C gt, mg cn = some (.ref C) ∧ PySem.W.hasDictIn K C = true ∧ PySem.W.findIn K (.ref C) f = some none ∧ PySem.W.findIn K (.ref C) "__getattribute__" = some (some (.builtin "BaseException.__getattribute__")) ∧
    PySem.W.findIn K (.ref C) "__getattr__" = some gt ∧ PySem.W.subIn K (.ref C) (.type "BaseException") = some true
theorem me_excF {X : Cx} {c : Cn} {x : Exc} {a : Addr} {oe : Obj} {cls : Value} {d : Option Addr} {pn : List (Addr × Obj)} {i : Nat} {y f : Str} {pos p : Pos} (hK : c.K = X.K) (hm : c.mg = X.mg) (R : ExR X.K X.mg x.c f) (hz : Zc cls d oe) (hf : ∃ vs, oe.data = .fields vs)
    (ho : PE (X.suite a ((a, oe) :: pn)) (.Name y p) (tVar i)) (hb : attributeBase (.Name y p) f X.env (eval (.Name y p) X.env) = eval (.Name y p) X.env := by rfl) : PE (X.suite a ((a, oe) :: pn)) (.Attribute (.Name y p) f pos) (tE (c.suite x cls d) (mExcF x a i f)) := by
  obtain ⟨C, gt, hC, hd, hno, hga, hgt, hsub⟩ := R.ex
  refine ⟨fun pins s σ H Q I h => ?_⟩
  obtain ⟨r, S, sd, q, xx, at_, hmm, g, gx⟩ := h
  unfold mExcF at hmm
  split at hmm
  · rename_i b eb
    obtain ⟨rfl, hmm⟩ := hmm
    split at hmm
    · rename_i dv edv
      obtain ⟨v, ev, rv⟩ := at_.rel.at_ i _ eb
      cases rv
      refine attr_of hb (thn (ho.run pins s σ H (fun v H1 => v = .ref b ∧ H1 = H) I ⟨_, ev, rfl, rfl⟩) fun u s1 ⟨x1, H1, I1, rx, e1, e2⟩ => ?_)
      subst e1
      rw [e2] at I1
      obtain rfl : u = Value.ref b := rx
      have hyp : RelX c.K c.mg r H x cls d := at_.hyp
      cases hyp with
      | own0 hc => cases edv
      | blt hm' => cases edv
      | @own cn C' dd fs vs hc hx q' =>
        rw [hm, hC] at hc
        cases hc
        obtain ⟨w, ew, rw'⟩ := (q'.lookup f).2 dv edv
        obtain ⟨ha, _⟩ := I1.pin (b, oe) (List.mem_append_left _ List.mem_cons_self)
        obtain ⟨zs, hzs⟩ := hf
        have hx2 : ObjOk X.prog X.w H s1.heap dd (.xd vs) := I1.hok dd _ hx
        obtain ⟨mA, hns, hr⟩ := hx2
        obtain ⟨od, hod, hl⟩ := lookIn_ns hns
        obtain ⟨u2, hu2, ru2⟩ := RelO.some_of (v := w) (o := mA f) (by rw [← ew]; exact hr f)
        have J : PySem.W.InstAt s1.heap b oe C (some od) := ⟨ha, hz.1, by unfold PySem.W.notCls; rw [hzs] <;> rfl, by rw [hz.2]; exact hod⟩
        exact HandSPX.exc_get I1.kIn J hga hgt hsub (PySem.W.findObj_own hd hno rfl (by rw [hl, hu2])) (handed_of ru2) ⟨w, H, I1.tok _, ru2, g dv S r w H hmm Stp.refl at_.sim rw'⟩
    · exact hmm.elim
  · exact hmm.elim
end
end Lw

namespace Lw
open PySem PySem.Spec PyProof.Rows L2

/-! ### operations on values -/
def lstO (S : Sto) (n : Nat) : Option (List D) := match S[n]? with
  | some (.lst ds) => some ds
  | _ => none
def seqO (S : Sto) (n : Nat) : Option (List D) := match S[n]? with
  | some (.lst ds) => some ds
  | some (.frz ds) => some ds
  | _ => none
section
variable {c : Cn} {r : List Addr} {H : Hp} {S : Sto} {n : Nat} {v : V} {ds : List D}
theorem lst_of (sm : c.Sm r H S) (rd : c.Rd r H (.ref n) v) (h : lstO S n = some ds) : ∃ a vs, v = .ref a ∧ r[n]? = some a ∧ H a = some (.lst vs) ∧ c.Rs r H ds vs := by
  cases rd with
  | ref hr =>
    unfold lstO at h
    split at h
    · rename_i hS
      cases h
      cases sm.obj _ _ _ hS hr with
      | lst h1 h2 => exact ⟨_, _, rfl, hr, h1, h2⟩
    · cases h
theorem seq_of (sm : c.Sm r H S) (rd : c.Rd r H (.ref n) v) (h : seqO S n = some ds) : ∃ a vs, v = .ref a ∧ r[n]? = some a ∧ SqL c.K H a vs ∧ c.Rs r H ds vs := by
  cases rd with
  | ref hr =>
    unfold seqO at h
    split at h
    · rename_i hS
      cases h
      obtain ⟨vs, h1, h2⟩ := list_at sm hr (.inl hS)
      exact ⟨_, vs, rfl, hr, h1, h2⟩
    · rename_i hS
      cases h
      obtain ⟨vs, h1, h2⟩ := list_at sm hr (.inr hS)
      exact ⟨_, vs, rfl, hr, h1, h2⟩
    · cases h
theorem tup_of (rd : c.Rd r H (.tup ds) v) : ∃ a vs, v = .ref a ∧ SqT c.K H a vs ∧ c.Rs r H ds vs := by
  cases rd with
  | tup h q => exact ⟨_, _, rfl, h, q⟩
end
def mAdd : MOp := fun d e S q => match d, e with
  | .int i, .int j => q (.int (i + j)) S
  | .int i, .bl k => q (.int (i + b2i k)) S
  | .str a, .str b => a.length + b.length ≤ sizeLine ∧ q (.str (a ++ b)) S
  | .tup a, .tup b => a.length + b.length ≤ sizeLine ∧ q (.tup (a ++ b)) S
  | .ref n, .ref m => (match lstO S n, lstO S m with
    | some a, some b => a.length + b.length ≤ sizeLine ∧ q (.ref S.length) (S ++ [.lst (a ++ b)])
    | _, _ => False)
  | _, _ => False
def mSub : MOp := fun d e S q => match d, e with
  | .int i, .int j => q (.int (i - j)) S
  | _, _ => False
def mMul : MOp := fun d e S q => match d, e with
  | .int i, .int j => (CMul i j ∨ CMulW i j) ∧ q (.int (i * j)) S
  | _, _ => False
def mFdiv : MOp := fun d e S q => match d, e with
  | .int i, .int j => (0 < j ∧ j.natAbs.log2 < 9000) ∧ q (.int (i / j)) S
  | _, _ => False
def mMod : MOp := fun d e S q => match d, e with
  | .int i, .int j => 0 < j ∧ q (.int (i % j)) S
  | _, _ => False
def mPow : MOp := fun d e S q => match d, e with
  | .int i, .int j => CPow i j ∧ q (.int (i ^ j.toNat)) S
  | _, _ => False
def mLt : MOp := fun d e S q => match d, e with
  | .int i, .int j => q (.bl (decide (i < j))) S
  | _, _ => False
def mLe : MOp := fun d e S q => match d, e with
  | .int i, .int j => q (.bl (decide (i ≤ j))) S
  | _, _ => False
def mGt : MOp := fun d e S q => match d, e with
  | .int i, .int j => q (.bl (decide (j < i))) S
  | _, _ => False
def mGe : MOp := fun d e S q => match d, e with
  | .int i, .int j => q (.bl (decide (j ≤ i))) S
  | _, _ => False
def isNonD : D → Bool
  | .non => true
  | _ => false
def mIs : MOp := fun d e S q => match e with
  | .non => q (.bl (isNonD d)) S
  | _ => False
def mIsNot : MOp := fun d e S q => match e with
  | .non => q (.bl (!isNonD d)) S
  | _ => False
section
variable {X : Cx} {c : Cn}
theorem ne_nil_of {K : PySem.W.Frag} {mg : Mg} {r : List Addr} {H : Hp} {ds : List D} (h : RelDs K mg r H ds []) : ds = [] := by cases h; rfl
theorem om_add (hK : c.K = X.K) : OpM X c (binaryOp .Add) mAdd := ⟨_, op_add.or (op_add_ib.or (op_add_str.or (op_catA.or op_cat))), fun v u H Q z => by
  obtain ⟨r, S, d, e, q, sm, rd, re, h, g⟩ := z
  unfold mAdd at h
  split at h
  · cases rd; cases re; exact .inl ⟨_, _, rfl, rfl, g _ S r _ H h Stp.refl sm (.int _)⟩
  · cases rd; cases re; exact .inr (.inl ⟨_, _, rfl, rfl, g _ S r _ H h Stp.refl sm (.int _)⟩)
  · cases rd; cases re; exact .inr (.inr (.inl ⟨_, _, rfl, rfl, h.1, g _ S r _ H h.2 Stp.refl sm (.str _)⟩))
  · obtain ⟨a, xs, rfl, h1, h2⟩ := tup_of rd
    obtain ⟨b, ys, rfl, h3, h4⟩ := tup_of re
    refine .inr (.inr (.inr (.inl ⟨a, b, xs, ys, rfl, rfl, by rw [← hK]; exact h1, by rw [← hK]; exact h3, by rw [← h2.length, ← h4.length]; exact h.1, fun e1 => ?_, fun _ e2 => ?_, fun _ _ p np => ?_⟩)))
    · subst e1
      have e0 := ne_nil_of h2
      subst e0
      exact g _ S r _ H h.2 Stp.refl sm (.tup h3 (by simpa using h4))
    · subst e2
      have e0 := ne_nil_of h4
      subst e0
      exact g _ S r _ H h.2 Stp.refl sm (.tup h1 (by simpa using h2))
    · have t2 : Stp r H r (upd H p (.tup (xs ++ ys))) := Stp.laid np
      exact g _ S r _ _ h.2 t2 (sm.laid np) (.tup (.inl (.inl upd_same)) ((h2.append h4).mono t2))
  · split at h
    · rename_i a b ea eb
      obtain ⟨p1, vs, rfl, _, h1, h2⟩ := lst_of sm rd ea
      obtain ⟨p2, ws, rfl, _, h3, h4⟩ := lst_of sm re eb
      refine .inr (.inr (.inr (.inr ⟨p1, p2, vs, ws, rfl, rfl, h1, h3, by rw [← h2.length, ← h4.length]; exact h.1, fun p np => ?_⟩)))
      have t2 : Stp r H (r ++ [p]) (upd H p (.lst (vs ++ ws))) := Stp.cell np
      exact g _ _ (r ++ [p]) _ _ h.2 t2 (sm.cell np (.lst upd_same ((h2.append h4).mono t2))) (.ref (by rw [← sm.len, List.getElem?_append_right (Nat.le_refl _)]; simp))
    · exact h.elim
  · exact h.elim⟩
theorem om_sub : OpM X c (binaryOp .Sub) mSub := ⟨_, op_sub, fun v u H Q z => by
  obtain ⟨r, S, d, e, q, sm, rd, re, h, g⟩ := z
  unfold mSub at h
  split at h
  · cases rd; cases re; exact ⟨_, _, rfl, rfl, g _ S r _ H h Stp.refl sm (.int _)⟩
  · exact h.elim⟩
theorem om_mul : OpM X c (binaryOp .Mult) mMul := ⟨_, op_mul.or op_mulW, fun v u H Q z => by
  obtain ⟨r, S, d, e, q, sm, rd, re, h, g⟩ := z
  unfold mMul at h
  split at h
  · cases rd; cases re
    rcases h.1 with h1 | h1
    · exact .inl ⟨_, _, rfl, rfl, h1, g _ S r _ H h.2 Stp.refl sm (.int _)⟩
    · exact .inr ⟨_, _, rfl, rfl, h1, g _ S r _ H h.2 Stp.refl sm (.int _)⟩
  · exact h.elim⟩
theorem om_fdiv : OpM X c (binaryOp .FloorDiv) mFdiv := ⟨_, op_fdivW, fun v u H Q z => by
  obtain ⟨r, S, d, e, q, sm, rd, re, h, g⟩ := z
  unfold mFdiv at h
  split at h
  · cases rd; cases re; exact ⟨_, _, rfl, rfl, h.1, g _ S r _ H h.2 Stp.refl sm (.int _)⟩
  · exact h.elim⟩
theorem om_mod : OpM X c (binaryOp .Mod) mMod := ⟨_, op_mod, fun v u H Q z => by
  obtain ⟨r, S, d, e, q, sm, rd, re, h, g⟩ := z
  unfold mMod at h
  split at h
  · cases rd; cases re; exact ⟨_, _, rfl, rfl, h.1, g _ S r _ H h.2 Stp.refl sm (.int _)⟩
  · exact h.elim⟩
theorem om_pow : OpM X c (binaryOp .Pow) mPow := ⟨_, op_pow, fun v u H Q z => by
  obtain ⟨r, S, d, e, q, sm, rd, re, h, g⟩ := z
  unfold mPow at h
  split at h
  · cases rd; cases re; exact ⟨_, _, rfl, rfl, h.1, g _ S r _ H h.2 Stp.refl sm (.int _)⟩
  · exact h.elim⟩
theorem om_lt : OpM X c (compareOp .Lt) mLt := ⟨_, op_lt, fun v u H Q z => by
  obtain ⟨r, S, d, e, q, sm, rd, re, h, g⟩ := z
  unfold mLt at h
  split at h
  · cases rd; cases re; exact ⟨_, _, rfl, rfl, g _ S r _ H h Stp.refl sm (.bl _)⟩
  · exact h.elim⟩
theorem om_le : OpM X c (compareOp .LtE) mLe := ⟨_, op_le, fun v u H Q z => by
  obtain ⟨r, S, d, e, q, sm, rd, re, h, g⟩ := z
  unfold mLe at h
  split at h
  · cases rd; cases re; exact ⟨_, _, rfl, rfl, g _ S r _ H h Stp.refl sm (.bl _)⟩
  · exact h.elim⟩
theorem om_gt : OpM X c (compareOp .Gt) mGt := ⟨_, op_gt, fun v u H Q z => by
  obtain ⟨r, S, d, e, q, sm, rd, re, h, g⟩ := z
  unfold mGt at h
  split at h
  · cases rd; cases re; exact ⟨_, _, rfl, rfl, g _ S r _ H h Stp.refl sm (.bl _)⟩
  · exact h.elim⟩
theorem om_ge : OpM X c (compareOp .GtE) mGe := ⟨_, op_ge, fun v u H Q z => by
  obtain ⟨r, S, d, e, q, sm, rd, re, h, g⟩ := z
  unfold mGe at h
  split at h
  · cases rd; cases re; exact ⟨_, _, rfl, rfl, g _ S r _ H h Stp.refl sm (.bl _)⟩
  · exact h.elim⟩
theorem isNon_of {K : PySem.W.Frag} {mg : Mg} {r : List Addr} {H : Hp} {d : D} {v : V} (h : RelD K mg r H d v) : decide (v = .non) = isNonD d := by
  cases h <;> simp [isNonD]
theorem om_is : OpM X c (compareOp .Is) mIs := ⟨_, op_isN, fun v u H Q z => by
  obtain ⟨r, S, d, e, q, sm, rd, re, h, g⟩ := z
  unfold mIs at h
  split at h
  · cases re; exact ⟨rfl, by rw [isNon_of rd]; exact g _ S r _ H h Stp.refl sm (.bl _)⟩
  · exact h.elim⟩
theorem om_isNot : OpM X c (compareOp .IsNot) mIsNot := ⟨_, op_notN, fun v u H Q z => by
  obtain ⟨r, S, d, e, q, sm, rd, re, h, g⟩ := z
  unfold mIsNot at h
  split at h
  · cases re; exact ⟨rfl, by rw [isNon_of rd]; exact g _ S r _ H h Stp.refl sm (.bl _)⟩
  · exact h.elim⟩
end
/-! ### data -/
def treeL (f : D → Option PyData) : List D → Option (List PyData)
  | [] => some []
  | d :: ds => match f d, treeL f ds with
    | some a, some b => some (a :: b)
    | _, _ => none
def tree : Nat → Sto → D → Option PyData
  | 0, _, _ => none
  | k + 1, S, d => match d with
    | .non => some .none
    | .bl b => some (.bool b)
    | .int i => some (.int i)
    | .str s => some (.str s)
    | .tup ds => (treeL (tree k S) ds).map .tuple
    | .ref n => (seqO S n).bind fun ds => (treeL (tree k S) ds).map .list
    | _ => none
mutual
theorem tree_dp {c : Cn} {r : List Addr} {H : Hp} {S : Sto} (sm : c.Sm r H S) : ∀ (k : Nat) (d : D) (v : V) (p : PyData), tree k S d = some p → c.Rd r H d v → Dp c.K H v p
  | 0, d, v, p, h, _ => by unfold tree at h; cases h
  | k + 1, d, v, p, h, rd => by
    unfold tree at h
    cases d with
    | non => cases rd; cases h; exact .non
    | bl b => cases rd; cases h; exact .bl b
    | int i => cases rd; cases h; exact .int i
    | str s => cases rd; cases h; exact .str s
    | nm x => cases h
    | adr x => cases h
    | tup ds =>
      obtain ⟨a, vs, rfl, h1, h2⟩ := tup_of rd
      dsimp only at h
      cases e : treeL (tree k S) ds with
      | none => rw [e] at h; cases h
      | some ps =>
        rw [e] at h
        cases h
        exact .tup h1 (tree_dpAll sm k ds vs ps e h2)
    | ref n =>
      dsimp only at h
      cases e : seqO S n with
      | none => rw [e] at h; cases h
      | some ds =>
        rw [e] at h
        obtain ⟨a, vs, rfl, _, h1, h2⟩ := seq_of sm rd e
        dsimp only [Option.bind] at h
        cases e2 : treeL (tree k S) ds with
        | none => rw [e2] at h; cases h
        | some ps =>
          rw [e2] at h
          cases h
          exact .lst h1 (tree_dpAll sm k ds vs ps e2 h2)
theorem tree_dpAll {c : Cn} {r : List Addr} {H : Hp} {S : Sto} (sm : c.Sm r H S) : ∀ (k : Nat) (ds : List D) (vs : List V) (ps : List PyData), treeL (tree k S) ds = some ps → c.Rs r H ds vs → DpAll c.K H vs ps
  | _, [], _, ps, h, rd => by
    cases rd
    unfold treeL at h
    cases h
    exact .nil
  | k, d :: ds, _, ps, h, rd => by
    cases rd with
    | cons h1 h2 =>
      unfold treeL at h
      split at h
      · rename_i a b ea eb
        cases h
        exact .cons (tree_dp sm k d _ a ea h1) (tree_dpAll sm k ds _ b eb h2)
      · cases h
end
def mEq : MOp := fun d e S q => match tree 9 S d, tree 9 S e with
  | some a, some b => (SeqAt.shaped a = true ∧ SeqAt.shaped b = true) ∧ q (.bl (PyData.eqv a b)) S
  | _, _ => False
def mNe : MOp := fun d e S q => match tree 9 S d, tree 9 S e with
  | some a, some b => (SeqAt.shaped a = true ∧ SeqAt.shaped b = true) ∧ q (.bl (!PyData.eqv a b)) S
  | _, _ => False
section
variable {X : Cx} {c : Cn}
theorem om_eq (hK : c.K = X.K) (hu : X.A.units + 64 < cLine) : OpM X c (compareOp .Eq) mEq := ⟨_, op_eqD hu, fun v u H Q z => by
  obtain ⟨r, S, d, e, q, sm, rd, re, h, g⟩ := z
  unfold mEq at h
  split at h
  · rename_i a b ea eb
    exact ⟨a, b, by rw [← hK]; exact tree_dp sm 9 d v a ea rd, by rw [← hK]; exact tree_dp sm 9 e u b eb re, h.1.1, h.1.2, g _ S r _ H h.2 Stp.refl sm (.bl _)⟩
  · exact h.elim⟩
theorem om_ne (hK : c.K = X.K) (hu : X.A.units + 64 < cLine) : OpM X c (compareOp .NotEq) mNe := ⟨_, op_neD hu, fun v u H Q z => by
  obtain ⟨r, S, d, e, q, sm, rd, re, h, g⟩ := z
  unfold mNe at h
  split at h
  · rename_i a b ea eb
    exact ⟨a, b, by rw [← hK]; exact tree_dp sm 9 d v a ea rd, by rw [← hK]; exact tree_dp sm 9 e u b eb re, h.1.1, h.1.2, g _ S r _ H h.2 Stp.refl sm (.bl _)⟩
  · exact h.elim⟩
end
/-- in a list -/
def mIn : MOp := fun d e S q => match tree 9 S d, tree 9 S e with
  | some a, some (.list bs) => (SeqAt.shaped a = true ∧ SeqAt.shaped (.list bs) = true) ∧ q (.bl (bs.any fun z => PyData.eqv z a)) S
  | _, _ => False
def mNotIn : MOp := fun d e S q => match tree 9 S d, tree 9 S e with
  | some a, some (.list bs) => (SeqAt.shaped a = true ∧ SeqAt.shaped (.list bs) = true) ∧ q (.bl (!bs.any fun z => PyData.eqv z a)) S
  | _, _ => False
section
variable {X : Cx} {c : Cn}
theorem om_in (hK : c.K = X.K) (hu : X.A.units + 65 < cLine) : OpM X c (compareOp .In) mIn := ⟨_, op_inD hu, fun v u H Q z => by
  obtain ⟨r, S, d, e, q, sm, rd, re, h, g⟩ := z
  unfold mIn at h
  split at h
  · rename_i a b ea eb
    exact ⟨a, b, by rw [← hK]; exact tree_dp sm 9 d v a ea rd, by rw [← hK]; exact tree_dp sm 9 e u _ eb re, h.1.1, h.1.2, g _ S r _ H h.2 Stp.refl sm (.bl _)⟩
  · exact h.elim⟩
theorem om_notIn (hK : c.K = X.K) (hu : X.A.units + 65 < cLine) : OpM X c (compareOp .NotIn) mNotIn := ⟨_, op_notInD hu, fun v u H Q z => by
  obtain ⟨r, S, d, e, q, sm, rd, re, h, g⟩ := z
  unfold mNotIn at h
  split at h
  · rename_i a b ea eb
    exact ⟨a, b, by rw [← hK]; exact tree_dp sm 9 d v a ea rd, by rw [← hK]; exact tree_dp sm 9 e u _ eb re, h.1.1, h.1.2, g _ S r _ H h.2 Stp.refl sm (.bl _)⟩
  · exact h.elim⟩
end
/-! ### -x -/
def mNeg (m : ME) : ME := fun sd S q x => m sd S (fun d S1 => match d with
  | .int i => q (.int (-i)) S1
  | _ => False) x
section
variable {X : Cx} {c : Cn} {m ma mb : ME} {a b e : Expr} {es : List Expr} {mr : MA} {pos p : Pos}
theorem me_neg (ha : PE X a (tE c m)) : PE X (.UnaryOp .USub a pos) (tE c (mNeg m)) := weakE (pe_un un_neg ha) fun s H Q z => by
  obtain ⟨r, S, sd, q, x, a, hm, g, gx⟩ := z
  refine ⟨r, S, sd, _, x, a, hm, fun d S1 r1 v H1 h1 t1 s1 rd1 => ?_, gx⟩
  cases rd1 with
  | int i => exact ⟨i, rfl, g _ S1 r1 _ H1 h1 t1 s1 (.int _)⟩
  | _ => exact h1.elim
/-! ### subscripts -/
structure IxM (X : Cx) (c : Cn) (g : MOp) : Prop where
  ok : ∃ R, IxR X R ∧ ∀ v u H Q, rOp c g v u H Q → R v u H Q
theorem me_ix {f : MOp} (h : IxM X c f) (ha : PE X a (tE c ma)) (hb : PE X b (tE c mb)) (hs : PlainIx b) : PE X (.Subscript a b pos) (tE c (mOp f ma mb)) := by
  obtain ⟨R, ho, w⟩ := h.ok
  exact weakE (pe_ix ho ha hb hs) (op_two w)
/-- a list, a tuple, a str -/
def mIx : MOp := fun d e S q => match d, e with
  | .tup ds, .int i => (match atI ds i with
    | some x => q x S
    | none => False)
  | .ref n, .int i => (match seqO S n with
    | some ds => (match atI ds i with
      | some x => q x S
      | none => False)
    | none => False)
  | .str z, .int i => z.length ≤ sizeLine ∧ (match atI z.cps.toList i with
    | some k => q (.str ⟨#[k]⟩) S
    | none => False)
  | _, _ => False
theorem RelDs.atI {K : PySem.W.Frag} {mg : Mg} {r : List Addr} {H : Hp} {ds : List D} {vs : List V} {i : Int} {d : D} (h : RelDs K mg r H ds vs) (e : L2.atI ds i = some d) : ∃ v, L2.atI vs i = some v ∧ RelD K mg r H d v := by
  unfold L2.atI at e ⊢
  rw [← h.length]
  cases k : ixN ds.length i with
  | none => rw [k] at e; cases e
  | some j =>
    rw [k] at e
    exact h.get e
theorem im_seq (hK : c.K = X.K) : IxM X c mIx := ⟨_, ix_seq, fun v u H Q z => by
  obtain ⟨r, S, d, e, q, sm, rd, re, h, g⟩ := z
  unfold mIx at h
  split at h
  · cases re
    split at h
    · rename_i ds i x ex
      obtain ⟨a, vs, rfl, h1, h2⟩ := tup_of rd
      obtain ⟨w, e1, e2⟩ := h2.atI ex
      exact .inr (.inl ⟨a, vs, _, w, rfl, rfl, by rw [← hK]; exact h1, e1, g _ S r _ H h Stp.refl sm e2⟩)
    · exact h.elim
  · cases re
    split at h
    · rename_i ds es
      split at h
      · rename_i x ex
        obtain ⟨a, vs, rfl, _, h1, h2⟩ := seq_of sm rd es
        obtain ⟨w, e1, e2⟩ := h2.atI ex
        exact .inl ⟨a, vs, _, w, rfl, rfl, by rw [← hK]; exact h1, e1, g _ S r _ H h Stp.refl sm e2⟩
      · exact h.elim
    · exact h.elim
  · cases rd; cases re
    obtain ⟨hl, h⟩ := h
    split at h
    · rename_i k ek
      exact .inr (.inr ⟨_, _, k, rfl, rfl, hl, ek, g _ S r _ H h Stp.refl sm (.str _)⟩)
    · exact h.elim
  · exact h.elim⟩
/-! ### a written table: a dict of the module with text keys -/
structure KTab (K : PySem.W.Frag) (w : World) (mg : Mg) (x : Str) (tab : List (Str × D)) : Prop where
  ex : ∃ a es n, mg x = some (.ref a) ∧ KDict K w a es n ∧ (∀ z, tab.lookup z = none → PySem.W.nsIn K a z = some none) ∧
    ∀ z d, tab.lookup z = some d → ∃ u v, PySem.W.nsIn K a z = some (some u) ∧ RelV v u ∧ ∀ r H, RelD K mg r H d v
def mIxT (x : Str) (tab : List (Str × D)) : MOp := fun d e S q => match d, e with
  | .nm y, .str z => y = x ∧ (match tab.lookup z with
    | some v => q v S
    | none => False)
  | _, _ => False
theorem im_tab {x : Str} {tab : List (Str × D)} (hK : c.K = X.K) (hm : c.mg = X.mg) (T : KTab X.K X.w X.mg x tab) : IxM X c (mIxT x tab) := ⟨_, ix_kdict, fun v u H Q z => by
  obtain ⟨cK, cmg, cP, cst, cW⟩ := c
  obtain rfl : cK = X.K := hK
  obtain rfl : cmg = X.mg := hm
  obtain ⟨r, S, d, e, q, sm, rd, re, h, g⟩ := z
  obtain ⟨a, es, n, ha, kd, _, hv⟩ := T.ex
  unfold mIxT at h
  split at h
  · obtain ⟨rfl, h⟩ := h
    cases re
    cases rd with
    | nm hb =>
      replace hb : X.mg _ = _ := hb
      rw [ha] at hb; cases hb
      split at h
      · rename_i d ed
        obtain ⟨u, v, e1, e2, e3⟩ := hv _ _ ed
        exact ⟨a, _, v, rfl, rfl, ⟨es, n, u, kd.at_, kd.lit, e1, e2⟩, g _ S r _ H h Stp.refl sm (e3 r H)⟩
      · exact h.elim
  · exact h.elim⟩
def mInT (x : Str) (tab : List (Str × D)) : MOp := fun d e S q => match d, e with
  | .str z, .nm y => y = x ∧ q (.bl (tab.lookup z).isSome) S
  | _, _ => False
theorem om_inT {x : Str} {tab : List (Str × D)} (hK : c.K = X.K) (hm : c.mg = X.mg) (T : KTab X.K X.w X.mg x tab) : OpM X c (compareOp .In) (mInT x tab) := by
  obtain ⟨a, es, n, ha, kd, hn, hv⟩ := T.ex
  refine ⟨_, op_in_kd kd, fun v u H Q z => ?_⟩
  obtain ⟨cK, cmg, cP, cst, cW⟩ := c
  obtain rfl : cK = X.K := hK
  obtain rfl : cmg = X.mg := hm
  obtain ⟨r, S, d, e, q, sm, rd, re, h, g⟩ := z
  unfold mInT at h
  split at h
  · rename_i z y
    obtain ⟨rfl, h⟩ := h
    cases rd
    cases re with
    | nm hb =>
      replace hb : X.mg _ = _ := hb
      rw [ha] at hb; cases hb
      cases ez : tab.lookup z with
      | none => rw [ez] at h; exact ⟨z, none, rfl, rfl, hn z ez, g _ S r _ H h Stp.refl sm (.bl _)⟩
      | some d =>
        obtain ⟨u, v, e1, e2, e3⟩ := hv _ _ ez
        rw [ez] at h
        exact ⟨z, some u, rfl, rfl, e1, g _ S r _ H h Stp.refl sm (.bl _)⟩
  · exact h.elim
/-- a name of the module that stands for itself -/
theorem me_nm {x : Str} {v : V} {a : Addr} (h : PE X e (tC v)) (hv : v = .ref a) (hm : c.mg x = some (.ref a)) : PE X e (tE c (mC (.nm x))) := me_c h fun _ _ => by
  subst hv
  exact .nm hm
/-! ### built-in functions by values -/
abbrev MFn := List D → Sto → QD → Prop
structure CallM (X : Cx) (c : Cn) (f : Value) (g : MFn) : Prop where
  ok : ∃ R, CallR X f R ∧ ∀ xs H Q, (∃ r S ds q, c.Sm r H S ∧ c.Rs r H ds xs ∧ g ds S q ∧ GoV c r H q Q) → R xs H Q
def mFn (g : MFn) (m : MA) : ME := fun sd S q x => m sd S (fun ds S1 => g ds S1 q) x
theorem fn_two {R : List V → Hp → VK → Prop} {g : MFn} (w : ∀ xs H Q, (∃ r S ds q, c.Sm r H S ∧ c.Rs r H ds xs ∧ g ds S q ∧ GoV c r H q Q) → R xs H Q) : ∀ s H Q, tE c (mFn g mr) s H Q → tCB R (tA c mr) s H Q := fun s H Q z => by
  obtain ⟨r, S, sd, q, x, a, hm, gv, gx⟩ := z
  exact ⟨r, S, sd, _, x, a, hm, fun ds S1 r1 vs H1 h1 t1 s1 rd1 => w _ _ _ ⟨r1, S1, ds, q, s1, rd1, h1, gv.step t1⟩, gx⟩
theorem me_fnB {x : Str} {id : String} {g : MFn} (hc : CallM X c (.builtin id) g) (hg : Gl X x) (hm : X.mg x = none) (hv : bootBuiltins x = some (.builtin id)) (ha : PA X (e :: es) (tA c mr)) (hn : x ≠ "__name__" := by decide) (hdb : (x == ("__debug__" : Str)) = false := by decide)
    (he : starEach (e :: es) X.env = (false, eval e X.env) :: starEach es X.env := by rfl) (hpl : (backTo pos (starEach es X.env)).any (·.1) = false := by rfl) : PE X (.Call (.Name x p) (e :: es) [] pos) (tE c (mFn g mr)) := by
  obtain ⟨R, ho, w⟩ := hc.ok
  exact weakE (pe_callB ho hg hm hv ha hn hdb he hpl) (fn_two w)
theorem me_fnT {x : Str} {id : String} {g : MFn} (hc : CallM X c (.type id) g) (hg : Gl X x) (hm : X.mg x = none) (hv : bootBuiltins x = some (.type id)) (ha : PA X (e :: es) (tA c mr)) (hn : x ≠ "__name__" := by decide) (hdb : (x == ("__debug__" : Str)) = false := by decide)
    (he : starEach (e :: es) X.env = (false, eval e X.env) :: starEach es X.env := by rfl) (hpl : (backTo pos (starEach es X.env)).any (·.1) = false := by rfl) : PE X (.Call (.Name x p) (e :: es) [] pos) (tE c (mFn g mr)) := by
  obtain ⟨R, ho, w⟩ := hc.ok
  exact weakE (pe_callTy ho hg hm hv ha hn hdb he hpl) (fn_two w)
def fLen : MFn := fun ds S q => match ds with
  | [.str z] => z.length ≤ sizeLine ∧ q (.int z.length) S
  | [.tup xs] => q (.int xs.length) S
  | [.ref n] => (match seqO S n with
    | some xs => q (.int xs.length) S
    | none => False)
  | _ => False
theorem rs1 {K : PySem.W.Frag} {mg : Mg} {r : List Addr} {H : Hp} {d : D} {xs : List V} (h : RelDs K mg r H [d] xs) : ∃ v, xs = [v] ∧ RelD K mg r H d v := by
  cases h with
  | cons h1 h2 => cases h2; exact ⟨_, rfl, h1⟩
theorem rs2 {K : PySem.W.Frag} {mg : Mg} {r : List Addr} {H : Hp} {d e : D} {xs : List V} (h : RelDs K mg r H [d, e] xs) : ∃ v u, xs = [v, u] ∧ RelD K mg r H d v ∧ RelD K mg r H e u := by
  cases h with
  | cons h1 h2 =>
    obtain ⟨u, rfl, h3⟩ := rs1 h2
    exact ⟨_, u, rfl, h1, h3⟩
theorem cm_len (hK : c.K = X.K) : CallM X c (.builtin "len") fLen := ⟨_, call_len, fun xs H Q z => by
  obtain ⟨r, S, ds, q, sm, rd, h, g⟩ := z
  unfold fLen at h
  split at h
  · obtain ⟨v, rfl, rv⟩ := rs1 rd
    cases rv
    exact ⟨_, _, rfl, ⟨h.1, rfl⟩, g _ S r _ H h.2 Stp.refl sm (.int _)⟩
  · obtain ⟨v, rfl, rv⟩ := rs1 rd
    obtain ⟨a, vs, rfl, h1, h2⟩ := tup_of rv
    exact ⟨_, vs.length, rfl, .inr ⟨vs, by rw [← hK]; exact h1, rfl⟩, by rw [← h2.length]; exact g _ S r _ H h Stp.refl sm (.int _)⟩
  · obtain ⟨v, rfl, rv⟩ := rs1 rd
    split at h
    · rename_i es
      obtain ⟨a, vs, rfl, _, h1, h2⟩ := seq_of sm rv es
      exact ⟨_, vs.length, rfl, .inl ⟨vs, by rw [← hK]; exact h1, rfl⟩, by rw [← h2.length]; exact g _ S r _ H h Stp.refl sm (.int _)⟩
    · exact h.elim
  · exact h.elim⟩
def fMax2 : MFn := fun ds S q => match ds with
  | [.int i, .int j] => q (.int (if j > i then j else i)) S
  | _ => False
def fMin2 : MFn := fun ds S q => match ds with
  | [.int i, .int j] => q (.int (if j < i then j else i)) S
  | _ => False
def fAbs : MFn := fun ds S q => match ds with
  | [.int i] => q (.int (if i < 0 then -i else i)) S
  | _ => False
def fInt : MFn := fun ds S q => match ds with
  | [.int i] => q (.int i) S
  | [.bl k] => q (.int (if k then 1 else 0)) S
  | _ => False
def fBool : MFn := fun ds S q => match ds with
  | [.int i] => q (.bl (i != 0)) S
  | [.bl k] => q (.bl k) S
  | _ => False
theorem cm_max2 (hc : X.calm = true) : CallM X c (.builtin "max") fMax2 := ⟨_, call_max2 hc, fun xs H Q z => by
  obtain ⟨r, S, ds, q, sm, rd, h, g⟩ := z
  unfold fMax2 at h
  split at h
  · obtain ⟨v, u, rfl, rv, ru⟩ := rs2 rd
    cases rv; cases ru
    exact ⟨_, _, rfl, g _ S r _ H h Stp.refl sm (.int _)⟩
  · exact h.elim⟩
theorem cm_min2 (hc : X.calm = true) : CallM X c (.builtin "min") fMin2 := ⟨_, call_min2 hc, fun xs H Q z => by
  obtain ⟨r, S, ds, q, sm, rd, h, g⟩ := z
  unfold fMin2 at h
  split at h
  · obtain ⟨v, u, rfl, rv, ru⟩ := rs2 rd
    cases rv; cases ru
    exact ⟨_, _, rfl, g _ S r _ H h Stp.refl sm (.int _)⟩
  · exact h.elim⟩
theorem cm_abs : CallM X c (.builtin "abs") fAbs := ⟨_, call_abs, fun xs H Q z => by
  obtain ⟨r, S, ds, q, sm, rd, h, g⟩ := z
  unfold fAbs at h
  split at h
  · obtain ⟨v, rfl, rv⟩ := rs1 rd
    cases rv
    exact ⟨_, rfl, g _ S r _ H h Stp.refl sm (.int _)⟩
  · exact h.elim⟩
theorem cm_int : CallM X c (.type "int") fInt := ⟨_, call_int1, fun xs H Q z => by
  obtain ⟨r, S, ds, q, sm, rd, h, g⟩ := z
  unfold fInt at h
  split at h
  · obtain ⟨v, rfl, rv⟩ := rs1 rd
    cases rv
    exact .inl ⟨_, rfl, g _ S r _ H h Stp.refl sm (.int _)⟩
  · obtain ⟨v, rfl, rv⟩ := rs1 rd
    cases rv
    exact .inr ⟨_, rfl, g _ S r _ H h Stp.refl sm (.int _)⟩
  · exact h.elim⟩
theorem cm_bool : CallM X c (.type "bool") fBool := ⟨_, call_bool1, fun xs H Q z => by
  obtain ⟨r, S, ds, q, sm, rd, h, g⟩ := z
  unfold fBool at h
  split at h
  · obtain ⟨v, rfl, rv⟩ := rs1 rd
    cases rv
    exact .inl ⟨_, rfl, g _ S r _ H h Stp.refl sm (.bl _)⟩
  · obtain ⟨v, rfl, rv⟩ := rs1 rd
    cases rv
    exact .inr ⟨_, rfl, g _ S r _ H h Stp.refl sm (.bl _)⟩
  · exact h.elim⟩
end
end Lw

namespace Lw
open PySem PySem.Spec PyProof.Rows L2

/-! ### the type of a value -/
inductive Kd where
  | b (n : String) | o (c : Str)
  deriving DecidableEq
def tyD (S : Sto) : D → Option Kd
  | .non => some (.b "NoneType")
  | .bl _ => some (.b "bool")
  | .int _ => some (.b "int")
  | .str _ => some (.b "str")
  | .tup _ => some (.b "tuple")
  | .ref n => match S[n]? with
    | some (.lst _) => some (.b "list")
    | some (.frz _) => some (.b "list")
    | some (.ins c _) => some (.o c)
    | _ => none
  | _ => none
/-- an own class whose instances may be asked for -/
structure OwnC (K : PySem.W.Frag) (C : Addr) : Prop where
  cl : L2.Cls K C
  ha : PySem.W.findIn K (.ref C) "__class__" = some (some (.builtin "object.__class__"))
  hn : PySem.W.specialIn K (.builtin "object.__class__") "__get__" = some (some (.builtin "getset_descriptor.__get__"))
  ht : PySem.W.takesIn K (.builtin "object.__class__") = some true
  hm : PySem.W.mroIn K C (.type "object") = some true
section
variable {c : Cn} {r : List Addr} {H : Hp} {S : Sto} {d : D} {v : V}
theorem tyB_of {t : String} (sm : c.Sm r H S) (rd : c.Rd r H d v) (h : tyD S d = some (.b t)) : TyX c.K H v (.type t) := by
  cases d with
  | non => cases rd; cases h; exact .base .non
  | bl b => cases rd; cases h; exact .base (.bl b)
  | int i => cases rd; cases h; exact .base (.int i)
  | str s => cases rd; cases h; exact .base (.str s)
  | nm x => cases h
  | adr x => cases h
  | tup ds =>
    obtain ⟨a, vs, rfl, h1, h2⟩ := tup_of rd
    cases h
    rcases h1 with (h1 | ⟨o, h1⟩) | ⟨o, its, n, h1, h2, _⟩
    · exact .base (.tup h1)
    · exact .fTuple h1
    · exact .kTuple h1 h2
  | ref n =>
    cases rd with
    | ref hr =>
      unfold tyD at h
      dsimp only at h
      split at h
      · rename_i ds hS
        cases h
        cases sm.obj _ _ _ hS hr with
        | lst h1 _ => exact .base (.lst h1)
      · rename_i ds hS
        cases h
        cases sm.obj _ _ _ hS hr with
        | frz h1 _ => exact .base (.frz h1)
      · cases h
      · cases h
theorem tyO_of {k : Str} {C : Addr} (sm : c.Sm r H S) (rd : c.Rd r H d v) (h : tyD S d = some (.o k)) (hC : c.mg k = some (.ref C)) (oc : OwnC c.K C) : TyX c.K H v (.ref C) := by
  cases d with
  | ref n =>
    cases rd with
    | ref hr =>
      unfold tyD at h
      dsimp only at h
      split at h
      · cases h
      · cases h
      · rename_i k' fs hS
        cases h
        cases sm.obj _ _ _ hS hr with
        | ins h1 _ h3 _ =>
          rw [hC] at h3; cases h3
          exact .base (.ins h1 oc.cl oc.ha oc.hn oc.ht oc.hm)
      · cases h
  | _ => cases h
end
/-- what is known of the own classes of the list cs -/
structure Owns (K : PySem.W.Frag) (mg : Mg) (cs : List Str) : Prop where
  at_ : ∀ k ∈ cs, ∃ C, mg k = some (.ref C) ∧ OwnC K C
/-- the six kinds -/
def kinds : List String := ["NoneType", "bool", "int", "str", "tuple", "list"]
theorem tyB_kind {S : Sto} {d : D} {t : String} (h : tyD S d = some (.b t)) : t ∈ kinds := by
  cases d with
  | nm _ => cases h
  | adr _ => cases h
  | ref n =>
    unfold tyD at h
    dsimp only at h
    split at h <;> first | (cases h; decide) | cases h
  | _ => cases h; decide
/-! ### isinstance(x, T) -/
def isB (T s : String) : Bool := s == T || (T == "int" && s == "bool")
def mIsiB (T : String) (cs : List Str) (m : ME) : ME := fun sd S q x => m sd S (fun d S1 => match tyD S1 d with
  | some (.b s) => q (.bl (isB T s)) S1
  | some (.o k) => k ∈ cs ∧ q (.bl false) S1
  | none => False) x
def mIsiO (cn : Str) (cs : List Str) (m : ME) : ME := fun sd S q x => m sd S (fun d S1 => match tyD S1 d with
  | some (.b s) => q (.bl false) S1
  | some (.o k) => k ∈ cs ∧ q (.bl (k == cn)) S1
  | none => False) x
section
variable {X : Cx} {c : Cn} {m ma mb : ME} {a b e o : Expr} {es : List Expr} {mr : MA} {p p2 pos : Pos} {cs : List Str}
theorem me_isiB {T : String} {x y : Str} (hg : Gl X x) (hmx : X.mg x = none) (hv : bootBuiltins x = some (.builtin "isinstance")) (hg2 : Gl X y) (hmy : X.mg y = none) (hv2 : bootBuiltins y = some (.type T)) (he : PE X e (tE c m)) (hK : c.K = X.K) (hm : c.mg = X.mg) (O : Owns X.K X.mg cs)
    (hB : ∀ s ∈ kinds, kitB s T = some (isB T s)) (hO : ∀ k ∈ cs, ∀ C, X.mg k = some (.ref C) → PySem.W.kitOne X.K (.ref C) (.type T) = some false)
    (hn : x ≠ "__name__" := by decide) (hdb : (x == ("__debug__" : Str)) = false := by decide) (hn2 : y ≠ "__name__" := by decide) (hdb2 : (y == ("__debug__" : Str)) = false := by decide)
    (hs : starEach (e :: [Expr.Name y p2]) X.env = (false, eval e X.env) :: starEach [Expr.Name y p2] X.env := by rfl) (hpl : (backTo pos (starEach [Expr.Name y p2] X.env)).any (·.1) = false := by rfl)
    (hs2 : starEach [Expr.Name y p2] X.env = (false, eval (Expr.Name y p2) X.env) :: starEach [] X.env := by rfl) :
    PE X (.Call (.Name x p) [e, .Name y p2] [] pos) (tE c (mIsiB T cs m)) := by
  obtain ⟨cK, cmg, cP, cst, cW⟩ := c
  obtain rfl : cK = X.K := hK
  obtain rfl : cmg = X.mg := hm
  refine weakE (pe_callB call_isi hg hmx hv (pa_cons he (pa_cons (pe_bltn hg2 hmy hv2 (show RelV (.ty T) (.type T) from rfl) hn2 hdb2) pa_nil hs2) hs) hn hdb hs hpl) fun s H Q z => ?_
  obtain ⟨r, S, sd, q, xx, a, hm, g, gx⟩ := z
  refine ⟨r, S, sd, _, xx, a, hm, fun d S1 r1 v H1 h1 t1 s1 rd1 => ?_, gx⟩
  dsimp only at h1
  split at h1
  · rename_i s es
    exact ⟨v, .ty T, _, _, _, rfl, .ty T, tyB_of s1 rd1 es, kit_ty (hB s (tyB_kind es)), g _ S1 r1 _ H1 h1 t1 s1 (.bl _)⟩
  · rename_i k es
    obtain ⟨C, hC, oc⟩ := O.at_ k h1.1
    exact ⟨v, .ty T, _, _, _, rfl, .ty T, tyO_of s1 rd1 es hC oc, hO k h1.1 C hC, g _ S1 r1 _ H1 h1.2 t1 s1 (.bl _)⟩
  · exact h1.elim
theorem me_isiO {x y : Str} {C0 : Addr} (hg : Gl X x) (hmx : X.mg x = none) (hv : bootBuiltins x = some (.builtin "isinstance")) (hg2 : Gl X y) (hmy : X.mg y = some (.ref C0)) (he : PE X e (tE c m)) (hK : c.K = X.K) (hm : c.mg = X.mg) (O : Owns X.K X.mg cs)
    (hB : ∀ s ∈ kinds, PySem.W.kitOne X.K (.type s) (.ref C0) = some false) (hO : ∀ k ∈ cs, ∀ C, X.mg k = some (.ref C) → PySem.W.kitOne X.K (.ref C) (.ref C0) = some (k == y))
    (hn : x ≠ "__name__" := by decide) (hdb : (x == ("__debug__" : Str)) = false := by decide) (hdb2 : (y == ("__debug__" : Str)) = false := by decide)
    (hs : starEach (e :: [Expr.Name y p2]) X.env = (false, eval e X.env) :: starEach [Expr.Name y p2] X.env := by rfl) (hpl : (backTo pos (starEach [Expr.Name y p2] X.env)).any (·.1) = false := by rfl)
    (hs2 : starEach [Expr.Name y p2] X.env = (false, eval (Expr.Name y p2) X.env) :: starEach [] X.env := by rfl) :
    PE X (.Call (.Name x p) [e, .Name y p2] [] pos) (tE c (mIsiO y cs m)) := by
  obtain ⟨cK, cmg, cP, cst, cW⟩ := c
  obtain rfl : cK = X.K := hK
  obtain rfl : cmg = X.mg := hm
  refine weakE (pe_callB call_isi hg hmx hv (pa_cons he (pa_cons (pe_glob hg2 hmy (show RelV (.ref C0) (.ref C0) from rfl) hdb2) pa_nil hs2) hs) hn hdb hs hpl) fun s H Q z => ?_
  obtain ⟨r, S, sd, q, xx, a, hm, g, gx⟩ := z
  refine ⟨r, S, sd, _, xx, a, hm, fun d S1 r1 v H1 h1 t1 s1 rd1 => (?_ : tCons (tC (V.ref C0)) tNil s H1 fun xs H2 => rIsi X.K (v :: xs) H2 Q), gx⟩
  dsimp only at h1
  split at h1
  · rename_i s es
    exact ⟨v, .ref C0, _, _, _, rfl, .own C0, tyB_of s1 rd1 es, hB s (tyB_kind es), g _ S1 r1 _ H1 h1 t1 s1 (.bl _)⟩
  · rename_i k es
    obtain ⟨C, hC, oc⟩ := O.at_ k h1.1
    exact ⟨v, .ref C0, _, _, _, rfl, .own C0, tyO_of s1 rd1 es hC oc, hO k h1.1 C hC, g _ S1 r1 _ H1 h1.2 t1 s1 (.bl _)⟩
  · exact h1.elim
/-! ### repr of data -/
def reprOk (p : PyData) : Bool := p.showable && decide (p.depth ≤ 64) && decide (p.shown.length ≤ sizeLine) && !p.hasDict
def fRepr : MFn := fun ds S q => match ds with
  | [d] => (match tree 9 S d with
    | some p => reprOk p = true ∧ q (.str p.shown) S
    | none => False)
  | _ => False
theorem call_reprD (hg : X.A.guards = some []) (hu : X.A.units + 70 < cLine) : CallR X (.builtin "repr") (fun xs H Q => ∃ v p, xs = [v] ∧ Dp X.K H v p ∧ reprOk p = true ∧ Q (.str p.shown) H) := by
  intro pins s σ H xs us Q I r h
  obtain ⟨v, p, rfl, dp, ok, q⟩ := h
  obtain ⟨u, rfl, rv⟩ := vals1 r
  unfold reprOk at ok
  rw [Bool.and_eq_true, Bool.and_eq_true, Bool.and_eq_true] at ok
  obtain ⟨⟨⟨hs, hd⟩, hz⟩, hh⟩ := ok
  have hd := of_decide_eq_true hd
  have hz := of_decide_eq_true hz
  have hh : p.hasDict = false := by simpa using hh
  cases dp with
  | non => cases rv; exact P.repr_of_none ⟨.str _, H, I.tok _, ⟨_, rfl⟩, q⟩
  | bl b => cases rv; exact P.repr_of_bool ⟨.str _, H, I.tok _, ⟨_, rfl⟩, q⟩
  | int i => obtain ⟨t, rfl⟩ := rv; exact P.repr_of_int (of_decide_eq_true (by simpa [PyData.showable] using hs)) ⟨.str _, H, I.tok _, ⟨_, rfl⟩, q⟩
  | str x => obtain ⟨t, rfl⟩ := rv; exact P.repr_of_str ⟨.str _, H, I.tok _, ⟨_, rfl⟩, q⟩ hz
  | lst h1 h2 =>
    have dp : Dp X.K H _ _ := .lst h1 h2
    obtain ⟨as, rr⟩ := Dp.reads I _ _ _ dp rv
    cases rv
    exact repr_of_reads' rr hs (fun z => by rw [hh] at z; cases z) hg (by omega) (fun _ _ e => e) (fun h' u tk hk => ⟨.str _, H, I.kept hk, ⟨_, rfl⟩, q⟩) hz
  | tup h1 h2 =>
    have dp : Dp X.K H _ _ := .tup h1 h2
    obtain ⟨as, rr⟩ := Dp.reads I _ _ _ dp rv
    cases rv
    exact repr_of_reads' rr hs (fun z => by rw [hh] at z; cases z) hg (by omega) (fun _ _ e => e) (fun h' u tk hk => ⟨.str _, H, I.kept hk, ⟨_, rfl⟩, q⟩) hz
theorem cm_repr (hK : c.K = X.K) (hg : X.A.guards = some []) (hu : X.A.units + 70 < cLine) : CallM X c (.builtin "repr") fRepr := ⟨_, call_reprD hg hu, fun xs H Q z => by
  obtain ⟨r, S, ds, q, sm, rd, h, g⟩ := z
  unfold fRepr at h
  split at h
  · obtain ⟨v, rfl, rv⟩ := rs1 rd
    split at h
    · rename_i p ep
      exact ⟨v, p, rfl, by rw [← hK]; exact tree_dp sm 9 _ v p ep rv, h.1, g _ S r _ H h.2 Stp.refl sm (.str _)⟩
    · exact h.elim
  · exact h.elim⟩
end
end Lw

namespace Lw
open PySem PySem.Spec PyProof.Rows L2

/-! ### own operators -/
/-- an own method under a special name -/
structure OpF (X : Cx) (cn : Str) (nm : Str) (C f : Addr) (u : Spec) (k : Nat) : Prop where
  mg : X.mg cn = some (.ref C)
  at_ : PySem.W.findIn X.K (.ref C) nm = some (some (.ref f))
  fn : PySem.W.isFn X.K (.ref f) = true
  fi : PySem.W.fnIn X.K f = true
  F : Fn X k f u []
section
variable {X : Cx} {c : Cn} {m ma mb : ME} {a b e o : Expr} {es : List Expr} {mr : MA} {p pos : Pos} {k : Nat} {f C : Addr} {u : Spec} {cn : Str}
theorem inst_of {pins : List (Addr × Obj)} {σ : L2.St} {H : Hp} {s : Shared} {x dx : Addr} {fs : List (Str × V)} (I : Inv X pins σ H s) (ea : H x = some (.ins C dx fs)) : ∃ od, PySem.W.InstAt s.heap x (PySem.W.instObj C dx) C (some od) := by
  obtain ⟨mA, O, _, _, _, _⟩ := ins_get I.hok ea
  obtain ⟨od, J, _⟩ := O.look
  exact ⟨od, J⟩
/-- a value that stands for something is not NotImplemented -/
theorem back_of {pins : List (Addr × Obj)} {σ : L2.St} {Q : VK} {v : Value} {s : Shared} (h : EP X pins σ Q v s) : PySem.W.CmpBack (EP X pins σ Q) v s := by
  obtain ⟨d, H', I, rd, q⟩ := id h
  cases v <;> first
    | exact h
    | (cases d <;> first | (cases rd; done) | (obtain ⟨_, z⟩ := rd; cases z))
/-- a one-place operator of an own class, by value -/
def mUnO (cn : Str) (u : Spec) (m : ME) : ME := fun sd S q x => m sd S (fun d S1 => isIns cn d S1 fun _ => u [d] S1 q x) x
theorem un_run {pins : List (Addr × Obj)} {σ : L2.St} {H : Hp} {s : Shared} {Q : VK} {R : Value → Shared → Prop} (ho : PE X a (tE c m)) (hc : CallOk X c k) (hC : X.mg cn = some (.ref C)) (F : Fn X k f u []) (I : Inv X pins σ H s) (h : tE c (mUnO cn u m) σ H Q)
    (go : ∀ s1 x (od : Obj × Obj) H1, Inv X pins σ H1 s1 → PySem.W.InstAt s1.heap x od.1 C (some od.2) → wpAny (model X.prog X.w) X.A (call (.ref f) [.ref x]) (EP X pins σ Q) X.xe s1 → R (.ref x) s1) : wpAny (model X.prog X.w) X.A (eval a X.env) R X.xe s := by
  obtain ⟨r, S, sd, q, xx, aa, hm, g, gx⟩ := h
  refine thn (ho.run pins s σ H (fun v H1 => ∃ x dx fs, v = V.ref x ∧ H1 x = some (.ins C dx fs) ∧ ∃ r1 S1 d, c.Sm r1 H1 S1 ∧ c.Rd r1 H1 d v ∧ Stp r H r1 H1 ∧ u [d] S1 q xx) I ⟨r, S, sd, _, xx, aa, hm, fun d S1 r1 v H1 h1 t1 sm1 rd1 => ?_, gx⟩) fun uu s1 ⟨v, H1, I1, rx, x, dx, fs, ev, ea, r1, S1, d, sm, rd, t, hu⟩ => ?_
  · obtain ⟨i, fs, x, dx, vs, rfl, rfl, _, _, e1, _, _, hu⟩ := isIns_of (C := C) h1 sm1 rd1 (by rw [hc.mg]; exact hC)
    exact ⟨x, dx, vs, rfl, e1, r1, S1, _, sm1, rd1, t1, hu⟩
  · subst ev
    obtain rfl : uu = Value.ref x := rx
    obtain ⟨od, J⟩ := inst_of I1 ea
    exact go s1 x ⟨_, od⟩ H1 I1 J (fn_run (us := [.ref x]) (vs := [.ref x]) (dl := [d]) F hc I1 (.cons rfl .nil) sm (.cons rd .nil) hu (g.step t) (gx.step t))
theorem me_inv (O : OpF X cn "__invert__" C f u k) (hc : CallOk X c k) (ha : PE X a (tE c m)) : PE X (.UnaryOp .Invert a pos) (tE c (mUnO cn u m)) :=
  ⟨fun pins s σ H Q I h => UnaryOp_ (un_run ha hc O.mg O.F I h fun s1 x od H1 I1 J z => by
    obtain ⟨mm, fr⟩ := I1.fr
    exact PySem.W.ksp_inv fr I1.ok.mod.kin J O.at_ O.fn z)⟩
theorem me_negO (O : OpF X cn "__neg__" C f u k) (hc : CallOk X c k) (ha : PE X a (tE c m)) : PE X (.UnaryOp .USub a pos) (tE c (mUnO cn u m)) :=
  ⟨fun pins s σ H Q I h => UnaryOp_ (un_run ha hc O.mg O.F I h fun s1 x od H1 I1 J z => by
    obtain ⟨mm, fr⟩ := I1.fr
    exact PySem.W.ksp_neg fr I1.ok.mod.kin J O.at_ O.fn z)⟩
/-! two places: a, b evaluated, then the own method of a's class -/
def okR (cn : Str) (e : D) (S : Sto) : Prop := match tyD S e with
  | some (.b _) => True
  | some (.o k) => k = cn
  | none => False
def mBinO (cn : Str) (u : Spec) (a b : ME) : ME := fun sd S q x => a sd S (fun d S1 => b sd S1 (fun e S2 => isIns cn d S2 fun _ => okR cn e S2 ∧ u [d, e] S2 q x) x) x
/-- what stands on the right -/
inductive RightT (X : Cx) (C : Addr) (u : Value) (h : Heap) : Prop
  | same (L : PySem.W.Looks (model X.prog X.w) h (typeOf u) (.ref C))
  | blt (T : String) (hT : T ∈ kinds) (L : PySem.W.Looks (model X.prog X.w) h (typeOf u) (.type T))
theorem bin_run {pins : List (Addr × Obj)} {σ : L2.St} {H : Hp} {s : Shared} {Q : VK} {op : Value → Value → Sem Value} (ho : PE X a (tE c ma)) (hb : PE X b (tE c mb)) (hc : CallOk X c k) (hC : X.mg cn = some (.ref C)) (oc : OwnC X.K C) (F : Fn X k f u []) (I : Inv X pins σ H s) (h : tE c (mBinO cn u ma mb) σ H Q)
    (go : ∀ s1 x (od : Obj × Obj) w H1, Inv X pins σ H1 s1 → PySem.W.InstAt s1.heap x od.1 C (some od.2) → RightT X C w s1.heap → wpAny (model X.prog X.w) X.A (call (.ref f) [.ref x, w]) (EP X pins σ Q) X.xe s1 → wpAny (model X.prog X.w) X.A (op (.ref x) w) (EP X pins σ Q) X.xe s1) :
    wpAny (model X.prog X.w) X.A (eval a X.env) (fun v s₁ => wpAny (model X.prog X.w) X.A (eval b X.env) (fun u s₂ => wpAny (model X.prog X.w) X.A (op v u) (EP X pins σ Q) X.xe s₂) X.xe s₁) X.xe s := by
  obtain ⟨r, S, sd, q, xx, aa, hm, g, gx⟩ := h
  refine thn (ho.run pins s σ H (fun v H1 => ∃ r1 S1 d, At c r1 S1 sd σ H1 ∧ c.Rd r1 H1 d v ∧ Stp r H r1 H1 ∧ mb sd S1 (fun e S2 => isIns cn d S2 fun _ => okR cn e S2 ∧ u [d, e] S2 q xx) xx) I ⟨r, S, sd, _, xx, aa, hm, fun d S1 r1 v H1 h1 t1 sm1 rd1 => ⟨r1, S1, d, aa.step t1 sm1, rd1, t1, h1⟩, gx⟩) fun v s1 ⟨vx, H1, I1, rx, r1, S1, d, a1, rd1, t1, h1⟩ => ?_
  refine thn (hb.run pins s1 σ H1 (fun w H2 => ∃ r2 S2 e, c.Sm r2 H2 S2 ∧ c.Rd r2 H2 e w ∧ Stp r1 H1 r2 H2 ∧ isIns cn d S2 fun _ => okR cn e S2 ∧ u [d, e] S2 q xx) I1 ⟨r1, S1, sd, _, xx, a1, h1, fun e S2 r2 w H2 h2 t2 sm2 rd2 => ⟨r2, S2, e, sm2, rd2, t2, h2⟩, gx.step t1⟩) fun w s2 ⟨wx, H2, I2, ry, r2, S2, e, sm2, rd2, t2, h2⟩ => ?_
  obtain ⟨i, fs, x, dx, vs, rfl, rfl, _, _, e1, _, _, ok, hu⟩ := isIns_of (C := C) h2 sm2 (rd1.mono t2) (by rw [hc.mg]; exact hC)
  obtain rfl : v = Value.ref x := rx
  obtain ⟨od, J⟩ := inst_of I2 e1
  have t12 := t1.trans t2
  refine go s2 x ⟨_, od⟩ w H2 I2 J ?_ (fn_run (us := [.ref x, w]) (vs := [.ref x, wx]) (dl := [.ref i, e]) F hc I2 (.cons rfl (.cons ry .nil)) sm2 (.cons (rd1.mono t2) (.cons rd2 .nil)) hu (g.step t12) (gx.step t12))
  unfold okR at ok
  cases et : tyD S2 e with
  | none => rw [et] at ok; exact ok.elim
  | some kd =>
    rw [et] at ok
    cases kd with
    | b T =>
      have tx := tyB_of sm2 rd2 et
      rw [hc.K] at tx
      obtain ⟨P, Z, pp, _⟩ := kit_of I2 ry tx
      exact .blt T (tyB_kind et) (Z.ty _ _ I2.kIn pp)
    | o k' =>
      obtain rfl : k' = cn := ok
      have tx := tyO_of sm2 rd2 et (by rw [hc.mg]; exact hC) (by rw [hc.K]; exact oc)
      rw [hc.K] at tx
      obtain ⟨P, Z, pp, _⟩ := kit_of I2 ry tx
      exact .same (Z.ty _ _ I2.kIn pp)
/-- what the written part says of a class with a two-place operator -/
structure BinF (K : PySem.W.Frag) (C : Addr) (nm : String) : Prop where
  sf : PySem.W.selfFirst K C = true
  rv : PySem.W.findIn K (.ref C) (dunderR nm) = some none
  bt : ∀ T ∈ kinds, (PySem.W.findIn K (.type T) (PySem.dunder nm)).isSome = true ∧ (PySem.W.findIn K (.type T) (dunderR nm)).isSome = true ∧ PySem.W.subIn K (.type T) (.ref C) = some false
end
section
variable {prog : Program} {w : World} {A : Around} {E : Value → Shared → Prop} {st : Shared} {K : PySem.W.Frag} {ix ca lv fa : Addr} {hb0 : Heap} {mm : Str → Option Value} {oi : Obj} {oe : Option Obj} {T : String}
open PySem.W in
/-- an own operator with a value of a built-in type on the right -/
theorem bin_blt {op : Operator} {rt : Value} {fo ro : Option Value} {Q : Value → Shared → Prop} (Fm : Fr hb0 lv st.heap mm) (K0 : K.In hb0) (J : InstAt st.heap ix oi ca oe) (hty : Looks (model prog w) st.heap (typeOf rt) (.type T)) (own : selfFirst K ca = true)
    (hm : findIn K (.ref ca) (PySem.dunder op.info.2) = some (some (.ref fa))) (hfn : isFn K (.ref fa) = true) (hnr : findIn K (.ref ca) (dunderR op.info.2) = some none)
    (hl : findIn K (.type T) (PySem.dunder op.info.2) = some fo) (hr : findIn K (.type T) (dunderR op.info.2) = some ro) (hsub : subIn K (.type T) (.ref ca) = some false)
    (go : wpAny (model prog w) A (call (.ref fa) [.ref ix, rt]) (PySem.W.CmpBack Q) E st) : wpAny (model prog w) A (binaryOp op (.ref ix) rt) Q E st := by
  have KI := K0.keeps Fm.keep
  obtain ⟨cdd, more, hcdd, hmro⟩ := ksp_first own
  rcases hinf : op.info with ⟨sg, nn⟩
  rw [hinf] at hm hnr hl hr
  dsimp only at hm hnr hl hr
  have first := ksp_try KI J hm hfn go
  have b1 : Looks (model prog w) st.heap (typeOf (.ref ix)) (.ref ca) := J.type
  have b3 : Looks (model prog w) st.heap (fillsNumberSlot (.ref ca) nn) true := fills_K KI hcdd hmro hm
  have b4 : Looks (model prog w) st.heap (fillsNumberSlot (.type T) nn) ((fo.isSome && !isSeqSlot fo) || (ro.isSome && !isSeqSlot ro)) := ksp_fillsT KI hl hr
  have b5 : Looks (model prog w) st.heap (isSubtype (.type T) (.ref ca)) false := looks_subIn KI hsub
  have b6 : Looks (model prog w) st.heap (numberSlotInPython (.ref ca) nn) true := ksp_inPy KI hm hnr (.inl rfl)
  have b7 : Looks (model prog w) st.heap (numberSlotInPython (.type T) nn) false := Looks.of_pure rfl
  have b8 : Looks (model prog w) st.heap (typeLookup (.type T) (dunderR nn)) ro := looks_findIn KI hr
  generalize ((fo.isSome && !isSeqSlot fo) || (ro.isSome && !isSeqSlot ro)) = onR at b4
  have neq : (Value.ref ca == Value.type T) = false := Bool.eq_false_iff.mpr fun q => by cases beq_iff_eq.mp q
  obtain ⟨h1, g1, d1, t1, o1⟩ := st
  simp only [binaryOp, hinf]
  refine wpAny_holding (wpAny_bind ?_)
  unfold binaryOp1
  refine wpAny_bind (b1.at (wpAny_bind (hty.at (wpAny_bind (b3.at ?_)))))
  simp only [neq, Bool.false_eq_true, if_false]
  cases onR <;>
  · ksp_lk
    refine wpAny_mono first (fun r s' back => ?_) fun _ _ z => z
    obtain ⟨v, rfl, done⟩ := back
    ksp_lk
    exact done
end
section
variable {X : Cx} {c : Cn} {m ma mb : ME} {a b e o : Expr} {es : List Expr} {mr : MA} {p pos : Pos} {k : Nat} {f C : Addr} {u : Spec} {cn : Str}
theorem me_binO {op : Operator} (O : OpF X cn (PySem.dunder op.info.2) C f u k) (B : BinF X.K C op.info.2) (oc : OwnC X.K C) (hc : CallOk X c k) (ha : PE X a (tE c ma)) (hb : PE X b (tE c mb)) : PE X (.BinOp a op b pos) (tE c (mBinO cn u ma mb)) :=
  ⟨fun pins s σ H Q I h => wpAny_BinOp (bin_run ha hb hc O.mg oc O.F I h fun s1 x od w H1 I1 J R z => by
    obtain ⟨mm, fr⟩ := I1.fr
    have z2 := wpAny_mono z (fun v s' h => back_of h) fun _ _ h => h
    cases R with
    | same L => exact PySem.W.binop_K fr I1.ok.mod.kin J L B.sf O.at_ O.fn z2
    | blt T hT L =>
      obtain ⟨h1, h2, h3⟩ := B.bt T hT
      obtain ⟨fo, e1⟩ := Option.isSome_iff_exists.mp h1
      obtain ⟨ro, e2⟩ := Option.isSome_iff_exists.mp h2
      exact bin_blt fr I1.ok.mod.kin J L B.sf O.at_ O.fn B.rv e1 e2 h3 z2)⟩
/-! a(b) -/
def mCallO (cn : Str) (u : Spec) (o : ME) (m : MA) : ME := fun sd S q x => o sd S (fun d S1 => isIns cn d S1 fun _ => m sd S1 (fun ds S2 => isIns cn d S2 fun _ => u (d :: ds) S2 q x) x) x
theorem callWith_inst {M : Model} {A : Around} {E : Value → Shared → Prop} {st : Shared} {x : Addr} {Q : Value → Shared → Prop} {first : List Value} {pos : Pos} {args : List (Bool × Sem Value)} {keywords : List (Option Str × Sem Value)} (np : (args.any (·.1) || keywords.any (·.1.isNone)) = false)
    (h : wpAny M A (evalArgs (.ref x) true args keywords) (fun z s₁ => (∃ C dx od, PySem.W.InstAt s₁.heap x (PySem.W.instObj C dx) C od) ∧ wpAny M A (call (.ref x) (first ++ z.pos) z.kw) Q E s₁) E st) : wpAny M A (callWith pos (.ref x) first args keywords) Q E st := by
  unfold callWith
  refine wpAny_bind (wpAny_holding (wpAny_mono h (fun z s₁ hz => wpAny_bind (wpAny_standAt ?_)) fun _ _ y => y))
  obtain ⟨⟨C, dx, od, J⟩, hz⟩ := hz
  have kp := PySem.W.kco_keeper (M := M) J rfl
  simp only [np]
  refine wpAny_bind (kp.here ?_)
  have tail : ∀ {t : Sem Value}, wpAny M A t Q E s₁ → wpAny M A (t >>= fun r => holding [r] point >>= fun _ => pure r) Q E s₁ := fun ht =>
    wpAny_bind (wpAny_mono ht (fun r s₂ hr => wpAny_bind (wpAny_holding (wpAny_point (wpAny_pure hr)))) fun _ _ y => y)
  exact tail (wpAny_operateT hz)
/-- the callee as code -/
theorem fn_code (F : Fn X k f u []) (hc : CallOk X c k) {pins : List (Addr × Obj)} {σ : L2.St} {H : Hp} {s : Shared} {Q : VK} {us : List Value} {vs : List V} {r : List Addr} {S : Sto} {dl : List D} {q : QD} {xx : QX} (I : Inv X pins σ H s) (rv : Vals vs us)
    (sm : c.Sm r H S) (rd : c.Rs r H dl vs) (h : u dl S q xx) (g : GoV c r H q Q) (gx : GoX c r H σ xx) :
    codeAny (model X.prog X.w) X.A (.call (.ref f) ⟨us, []⟩) (fun rs s' => match rs with | .ok (.ret v) => EP X pins σ Q v s' | .ok _ => False | .error e => X.xe e s') s := by
  obtain ⟨fd, ps, dvs, ds, FF, hb, hd, hdd⟩ := F.ex
  have h' : u (dl ++ []) S q xx := by rw [List.append_nil]; exact h
  have sp := call_of hc.K hc.mg hdd sm rd h' g gx
  have r2 : Vals (vs ++ dvs) (us ++ ds) := rv.append hd
  have hl : (us ++ ds).length = ps.length := r2.length.symm.trans (FF.len _ _ _ _ sp)
  refine codeAny_mono (FF.run X.A X.stack s H ⟨us, []⟩ _ _ Q (WE c.W σ) hc.room hc.gd I.env0 (hb s us I.kIn hl) r2 sp) fun rs s' hq => ?_
  cases rs with
  | error e => exact passAt hc.tk σ pins H s e s' I hq
  | ok fl =>
    cases fl with
    | ret u => exact I.after hq
    | next => exact hq.elim
    | brk => exact hq.elim
    | cont => exact hq.elim
theorem me_callO {x : Str} (O : OpF X cn "__call__" C f u k) (hc : CallOk X c k) (ho : PE X (.Name x p) (tE c m)) (ha : PA X (e :: es) (tA c mr))
    (he : starEach (e :: es) X.env = (false, eval e X.env) :: starEach es X.env := by rfl) (hpl : (backTo pos (starEach es X.env)).any (·.1) = false := by rfl) :
    PE X (.Call (.Name x p) (e :: es) [] pos) (tE c (mCallO cn u m mr)) := by
  refine ⟨fun pins s σ H Q I h => wpAny_Call_Name_kw ?_⟩
  obtain ⟨r, S, sd, q, xx, aa, hm, g, gx⟩ := h
  refine thn (ho.run pins s σ H (fun v H1 => ∃ r1 S1 d, At c r1 S1 sd σ H1 ∧ c.Rd r1 H1 d v ∧ Stp r H r1 H1 ∧ (∃ i, d = .ref i ∧ ∃ x', v = V.ref x') ∧ mr sd S1 (fun ds S2 => isIns cn d S2 fun _ => u (d :: ds) S2 q xx) xx) I ⟨r, S, sd, _, xx, aa, hm, fun d S1 r1 v H1 h1 t1 sm1 rd1 => ?_, gx⟩) fun v s1 ⟨vx, H1, I1, rx, r1, S1, d, a1, rd1, t1, ⟨i, ed, x', ev⟩, h1⟩ => ?_
  · obtain ⟨i, fs, x', dx, vs, rfl, rfl, _, _, _, _, _, hu⟩ := isIns_of (C := C) h1 sm1 rd1 (by rw [hc.mg]; exact O.mg)
    exact ⟨r1, S1, _, aa.step t1 sm1, rd1, t1, ⟨i, rfl, x', rfl⟩, hu⟩
  · subst ed ev
    obtain rfl : v = Value.ref x' := rx
    rw [he]
    refine callWith_inst (by show ((false || (backTo pos (starEach es X.env)).any (·.1)) || false) = false; rw [hpl]; rfl) (PySem.Calls.evalArgs_plain ?_)
    have hq := ha.run pos pins s1 σ H1 (fun ws H2 => ∃ r2 S2 ds, c.Sm r2 H2 S2 ∧ c.Rs r2 H2 ds ws ∧ Stp r1 H1 r2 H2 ∧ isIns cn (.ref i) S2 fun _ => u (.ref i :: ds) S2 q xx) I1 ⟨r1, S1, sd, _, xx, a1, h1, fun ds S2 r2 ws H2 h2 t2 sm2 rd2 => ⟨r2, S2, ds, sm2, rd2, t2, h2⟩, gx.step t1⟩
    rw [he] at hq
    refine thn hq fun us s2 ⟨ws, H2, I2, rr, r2, S2, ds, sm2, rd2, t2, h2⟩ => ?_
    obtain ⟨i', fs, y, dx, vs, ei, ey, er, _, e1, _, _, hu⟩ := isIns_of (C := C) h2 sm2 (rd1.mono t2) (by rw [hc.mg]; exact O.mg)
    cases ei; cases ey
    obtain ⟨od, J⟩ := inst_of I2 e1
    have t12 := t1.trans t2
    refine ⟨⟨_, _, _, J⟩, wpAny_call (PySem.W.kco_code I2.kIn J rfl O.at_ O.fn O.fi ?_)⟩
    exact fn_code (us := .ref x' :: us) (vs := .ref x' :: ws) (dl := .ref i :: ds) O.F hc I2 (.cons rfl rr) sm2 (.cons (rd1.mono t2) rd2) hu (g.step t12) (gx.step t12)
end
end Lw

namespace Lw
open PySem PySem.Spec PyProof.Rows L2
open He (ga ma eqO eqO_ok ba Fa Dv refsD frG frG_at frG_in keyOf keysIn dicW dflB dflB_ok kwdB kwdB_ok FnW)

/-! ### what the head looks at -/
/-- no list that may be the script -/
def keepO : Obj → Bool
  | ⟨.type c, _, _, _⟩ => !(c == "list")
  | _ => true
def memA (a : Addr) : List Addr → Bool
  | [] => false
  | b :: r => match Nat.beq a b with
    | true => true
    | false => memA a r
def pickA (seen : List Addr) : List Addr → List Addr → List Addr
  | [], acc => acc
  | a :: r, acc => match memA a acc with
    | true => pickA seen r acc
    | false => match memA a seen with
      | true => pickA seen r acc
      | false => pickA seen r (a :: acc)
def bfs (g : Addr → Option Obj) : Nat → List Addr → List Addr → List Addr
  | 0, _, seen => seen
  | n + 1, fr, seen =>
    let nx := pickA seen (fr.flatMap fun a => match g a with
      | some o => refsD o
      | none => []) []
    bfs g n nx (nx ++ seen)
def asL (g : Addr → Option Obj) (n : Nat) : List Addr := bfs g n [mainGlobals, PySem.cStatics] [mainGlobals, PySem.cStatics]
def frL (g : Addr → Option Obj) (n : Nat) : PySem.W.Frag := (frG g (asL g n)).filter fun q => keepO q.2
theorem lookup_filter {p : Addr × Obj → Bool} {a : Addr} {o : Obj} : ∀ {l : List (Addr × Obj)}, (l.filter p).lookup a = some o → (a, o) ∈ l ∧ p (a, o) = true
  | [], h => by cases h
  | (b, u) :: r, h => by
    rw [List.filter_cons] at h
    by_cases hp : p (b, u) = true
    · rw [if_pos hp, List.lookup_cons] at h
      by_cases q : (a == b) = true
      · rw [q] at h
        cases beq_iff_eq.mp q
        cases h
        exact ⟨List.mem_cons_self, hp⟩
      · have q' : (a == b) = false := by simpa using q
        rw [q'] at h
        obtain ⟨h1, h2⟩ := lookup_filter h
        exact ⟨List.mem_cons_of_mem _ h1, h2⟩
    · rw [if_neg hp] at h
      obtain ⟨h1, h2⟩ := lookup_filter h
      exact ⟨List.mem_cons_of_mem _ h1, h2⟩
theorem frG_mem' {g : Addr → Option Obj} {as : List Addr} {a : Addr} {o : Obj} (h : (a, o) ∈ frG g as) : g a = some o := by
  unfold He.frG at h
  obtain ⟨b, _, e⟩ := List.mem_filterMap.mp h
  cases hb : g b with
  | none => rw [hb] at e; cases e
  | some u =>
    rw [hb] at e
    cases e
    exact hb
theorem frL_in {h : Heap} {n : Nat} : (frL h.get? n).In h := fun _ _ e => frG_mem' (lookup_filter e).1
theorem frL_keep {g : Addr → Option Obj} {n : Nat} {a : Addr} {o : Obj} (e : (frL g n).lookup a = some o) : keepO o = true := (lookup_filter e).2
/-! ### defs, by any address -/
structure Df where
  at_ : PySem.W.Frag → Addr
  name : Str
  qual : Str
  params : Arguments
  body : List Stmt
  scope : Scope
  dfl : List Dv := []
def gA (x : Str) : PySem.W.Frag → Addr := fun K => ga K x
def mA (c m : Str) : PySem.W.Frag → Addr := fun K => ma K (ga K c) m
def recA (T : String) (c m : Str) : PySem.W.Frag → Addr := fun K => match PySem.W.recIn K (ma K (ga K c) m) T with
  | some (.ref g :: _) => g
  | _ => 0
def pA (c m : Str) : PySem.W.Frag → Addr := recA "property" c m
def cA (c m : Str) : PySem.W.Frag → Addr := recA "classmethod" c m
def fnAt (K : PySem.W.Frag) (a : Addr) : FnW := match K.lookup a with
  | some ⟨_, _, .func fd, _⟩ => some (fd.name, fd.qualname, fd.params, fd.body, fd.scope, fd.globals, fd.closure, fd.builtins)
  | _ => none
def Df.val (d : Df) : FnW := some (d.name, d.qual, d.params, .stmts d.body, d.scope, mainGlobals, [], builtinsNs)
def Df.dvs (K : PySem.W.Frag) (d : Df) : List V := d.dfl.map (Dv.v K)
def Df.ok (K : PySem.W.Frag) (d : Df) : Bool := PySem.W.keepIn K (.ref (d.at_ K)) && (match K.lookup (d.at_ K) with
  | some ⟨_, _, .func fd, _⟩ => PySem.W.codeIn K fd.code d.qual && (dflB K fd.defaults (d.dvs K) && kwdB K fd.kwdefaults [])
  | _ => false)
theorem Df.funD {K : PySem.W.Frag} {d : Df} (e : fnAt K (d.at_ K) = d.val) (c : d.ok K = true) : ∃ fd, FunD K d.name d.qual d.params d.body d.scope (d.dvs K) [] (d.at_ K) fd := by
  obtain ⟨kp, c2⟩ := ba c
  unfold fnAt at e
  cases q : K.lookup (d.at_ K) with
  | none => rw [q] at c2; cases c2
  | some o =>
    obtain ⟨x1, x2, dt, x3⟩ := o
    rw [q] at c2 e
    cases dt with
    | func fd =>
      obtain ⟨y1, y2, y3, y4, y5, y6, y7, y8, y9, y10, y11, y12, y13, y14, y15⟩ := fd
      have e2 : (some (y1, y2, y3, y4, y5, y6, y7, y15) : FnW) = some (d.name, d.qual, d.params, .stmts d.body, d.scope, mainGlobals, [], builtinsNs) := e
      simp only [Option.some.injEq, Prod.mk.injEq] at e2
      obtain ⟨z1, z2, z3, z4, z5, z6, z7, z8⟩ := e2
      subst z1 z2 z3 z4 z5 z6 z7 z8
      obtain ⟨k1, k2⟩ := ba (show (PySem.W.codeIn K y13 d.qual && (dflB K y8 (d.dvs K) && kwdB K y9 [])) = true from c2)
      obtain ⟨k3, k4⟩ := ba k2
      exact ⟨_, ⟨x1, x2, y8, y9, y10, y11, y12, y13, y14, x3, rfl, q, k1, dflB_ok k3, kwdB_ok k4⟩, kp⟩
    | _ => cases c2
/-! ### the Hook -/
abbrev Xf := PySem.W.Frag → Bool
abbrev Tb := (PySem.W.Frag → Addr) × List Str
abbrev AlL : Type := Bool × List FnW × List (Option (List (Option (Str × Int))))
def obsL (fa : List Fa) (fn : List Df) (ts : List Tb) (xs : List Xf) (K : PySem.W.Frag) : AlL := ((fa.all fun f => f.ok K) && ((fn.all fun d => d.ok K) && xs.all fun x => x K), fn.map fun d => fnAt K (d.at_ K), ts.map fun t => dicW K (t.1 K))
def valL (fn : List Df) (ts : List Tb) (w : World) : AlL := (true, fn.map Df.val, ts.map fun t => some (keysIn w.params t.2))
def obsLG (n : Nat) (fa : List Fa) (fn : List Df) (ts : List Tb) (xs : List Xf) (g : Addr → Option Obj) : AlL := obsL fa fn ts xs (frL g n)
def SaysL (fa : List Fa) (fn : List Df) (ts : List Tb) (xs : List Xf) (w : World) (K : PySem.W.Frag) : Prop := obsL fa fn ts xs K = valL fn ts w
def hookL (n : Nat) (fa : List Fa) (fn : List Df) (ts : List Tb) (xs : List Xf) : PySem.W.Hook where
  α := AlL
  obs := fun s => obsLG n fa fn ts xs s.heap.get?
  val := fun w => valL fn ts w
  says := fun w h => ∃ K : PySem.W.Frag, K.In h ∧ SaysL fa fn ts xs w K ∧ ∀ a o, K.lookup a = some o → keepO o = true
  of := fun _ _ e => ⟨_, frL_in, e, fun _ _ e => frL_keep e⟩
  keeps := fun _ _ _ ⟨K, hK, c⟩ k => ⟨K, PySem.W.Frag.In.keeps hK k, c⟩
theorem obsLG_eq {n : Nat} {fa : List Fa} {fn : List Df} {ts : List Tb} {xs : List Xf} {g : Addr → Option Obj} {s : Shared} (h : ∀ a, g a = s.heap.get? a) : obsLG n fa fn ts xs g = (hookL n fa fn ts xs).obs s := by
  have e : g = s.heap.get? := funext h
  rw [e] <;> rfl
/-! ### what a law's texts lean on -/
structure Ctx (fa : List Fa) (fn : List Df) (ts : List Tb) (xs : List Xf) (w : World) (K : PySem.W.Frag) (mg : Mg) : Prop where
  h : ∃ h, K.In h ∧ h.Ns mainGlobals mg
  says : SaysL fa fn ts xs w K
section
variable {fa : List Fa} {fn : List Df} {ts : List Tb} {xs : List Xf} {w : World} {K : PySem.W.Frag} {mg : Mg}
theorem Ctx.one (c : Ctx fa fn ts xs w K mg) : ((fa.all fun f => f.ok K) && ((fn.all fun d => d.ok K) && xs.all fun x => x K)) = true := congrArg (fun z : AlL => z.1) c.says
theorem Ctx.fact (c : Ctx fa fn ts xs w K mg) (i : Nat) {f : Fa} (h : fa[i]? = some f := by rfl) : f.ok K = true :=
  List.all_eq_true.mp (ba c.one).1 f (List.mem_of_getElem? h)
theorem Ctx.x (c : Ctx fa fn ts xs w K mg) (i : Nat) {x : Xf} (h : xs[i]? = some x := by rfl) : x K = true :=
  List.all_eq_true.mp (ba (ba c.one).2).2 x (List.mem_of_getElem? h)
theorem Ctx.glo (c : Ctx fa fn ts xs w K mg) (i : Nat) {x : Str} (h : fa[i]? = some (.glo x) := by rfl) : mg x = some (.ref (ga K x)) :=
  let ⟨_, h1, h2⟩ := c.h
  He.glo_ok h1 h2 (c.fact i h)
theorem Ctx.free (c : Ctx fa fn ts xs w K mg) (i : Nat) {x : Str} (h : fa[i]? = some (.free x) := by rfl) : mg x = none :=
  let ⟨_, h1, h2⟩ := c.h
  He.free_ok h1 h2 (c.fact i h)
theorem Ctx.def_ (c : Ctx fa fn ts xs w K mg) (i : Nat) {d : Df} (h : fn[i]? = some d := by rfl) : ∃ fd, FunD K d.name d.qual d.params d.body d.scope (d.dvs K) [] (d.at_ K) fd := by
  have c2 := List.all_eq_true.mp (ba (ba c.one).2).1 d (List.mem_of_getElem? h)
  have e : fn.map (fun d => fnAt K (d.at_ K)) = fn.map Df.val := congrArg (fun z : AlL => z.2.1) c.says
  have e2 : (fn.map fun d => fnAt K (d.at_ K))[i]? = (fn.map Df.val)[i]? := by rw [e]
  rw [List.getElem?_map, List.getElem?_map, h] at e2
  exact Df.funD (Option.some.inj e2) c2
theorem Ctx.tab (c : Ctx fa fn ts xs w K mg) (i : Nat) {t : Tb} (h : ts[i]? = some t := by rfl) : dicW K (t.1 K) = some (keysIn w.params t.2) := by
  have e : ts.map (fun t => dicW K (t.1 K)) = ts.map fun t => some (keysIn w.params t.2) := congrArg (fun z : AlL => z.2.2) c.says
  have e2 : (ts.map fun t => dicW K (t.1 K))[i]? = (ts.map fun t => some (keysIn w.params t.2))[i]? := by rw [e]
  rw [List.getElem?_map, List.getElem?_map, h] at e2
  exact Option.some.inj e2
end
/-! ### further facts -/
def xOwn (x : Str) : Xf := fun K => (Fa.cls x).ok K && (eqO (PySem.W.findIn K (.ref (ga K x)) "__class__") (some (some (.builtin "object.__class__"))) && (eqO (PySem.W.specialIn K (.builtin "object.__class__") "__get__") (some (some (.builtin "getset_descriptor.__get__"))) &&
  (decide (PySem.W.takesIn K (.builtin "object.__class__") = some true) && decide (PySem.W.mroIn K (ga K x) (.type "object") = some true))))
theorem xOwn_ok {K : PySem.W.Frag} {x : Str} (h : xOwn x K = true) : OwnC K (ga K x) := by
  obtain ⟨h1, h⟩ := ba h
  obtain ⟨h2, h⟩ := ba h
  obtain ⟨h3, h⟩ := ba h
  obtain ⟨h4, h5⟩ := ba h
  exact ⟨He.cls_ok h1, eqO_ok h2, eqO_ok h3, of_decide_eq_true h4, of_decide_eq_true h5⟩
def xOp (x m : Str) : Xf := fun K => eqO (PySem.W.findIn K (.ref (ga K x)) m) (some (some (.ref (ma K (ga K x) m)))) && (PySem.W.isFn K (.ref (ma K (ga K x) m)) && PySem.W.fnIn K (ma K (ga K x) m))
theorem xOp_ok {X : Cx} {x m : Str} {k : Nat} {u : Spec} (h : xOp x m X.K = true) (hg : X.mg x = some (.ref (ga X.K x))) (F : Fn X k (ma X.K (ga X.K x) m) u []) : OpF X x m (ga X.K x) (ma X.K (ga X.K x) m) u k := by
  obtain ⟨h1, h⟩ := ba h
  obtain ⟨h2, h3⟩ := ba h
  exact ⟨hg, eqO_ok h1, h2, h3, F⟩
def xBin (x : Str) (nm : String) : Xf := fun K => PySem.W.selfFirst K (ga K x) && (eqO (PySem.W.findIn K (.ref (ga K x)) (dunderR nm)) (some none) && kinds.all fun T =>
  (PySem.W.findIn K (.type T) (PySem.dunder nm)).isSome && ((PySem.W.findIn K (.type T) (dunderR nm)).isSome && decide (PySem.W.subIn K (.type T) (.ref (ga K x)) = some false)))
theorem xBin_ok {K : PySem.W.Frag} {x : Str} {nm : String} (h : xBin x nm K = true) : BinF K (ga K x) nm := by
  obtain ⟨h1, h⟩ := ba h
  obtain ⟨h2, h3⟩ := ba h
  refine ⟨h1, eqO_ok h2, fun T hT => ?_⟩
  obtain ⟨h4, h5⟩ := ba (List.all_eq_true.mp h3 T hT)
  obtain ⟨h5, h6⟩ := ba h5
  exact ⟨h4, h5, of_decide_eq_true h6⟩
/-- isinstance with a built-in type on the right: the own classes are none -/
def xIsB (cs : List Str) (T : String) : Xf := fun K => cs.all fun k => decide (PySem.W.kitOne K (.ref (ga K k)) (.type T) = some false)
def xIsO (cs : List Str) (y : Str) : Xf := fun K => (kinds.all fun s => decide (PySem.W.kitOne K (.type s) (.ref (ga K y)) = some false)) && cs.all fun k => decide (PySem.W.kitOne K (.ref (ga K k)) (.ref (ga K y)) = some (k == y))
theorem xIsB_ok {K : PySem.W.Frag} {mg : Mg} {cs : List Str} {T : String} (h : xIsB cs T K = true) (hg : ∀ k ∈ cs, mg k = some (.ref (ga K k))) : ∀ k ∈ cs, ∀ C, mg k = some (.ref C) → PySem.W.kitOne K (.ref C) (.type T) = some false := fun k hk C hC => by
  rw [hg k hk] at hC; cases hC
  exact of_decide_eq_true (List.all_eq_true.mp h k hk)
theorem xIsO_ok {K : PySem.W.Frag} {mg : Mg} {cs : List Str} {y : Str} (h : xIsO cs y K = true) (hg : ∀ k ∈ cs, mg k = some (.ref (ga K k))) : (∀ s ∈ kinds, PySem.W.kitOne K (.type s) (.ref (ga K y)) = some false) ∧
    ∀ k ∈ cs, ∀ C, mg k = some (.ref C) → PySem.W.kitOne K (.ref C) (.ref (ga K y)) = some (k == y) := by
  obtain ⟨h1, h2⟩ := ba h
  exact ⟨fun s hs => of_decide_eq_true (List.all_eq_true.mp h1 s hs), fun k hk C hC => by
    rw [hg k hk] at hC; cases hC
    exact of_decide_eq_true (List.all_eq_true.mp h2 k hk)⟩
/-! exception classes -/
def refsB (T : List Value) : List Value → Bool
  | [] => T.isEmpty
  | .ref a :: r => refsB T r
  | l => decide (l = T)
theorem refsB_ok {T : List Value} : ∀ {l : List Value}, refsB T l = true → RefsT T l
  | [], h => by
    have e : T = [] := List.isEmpty_iff.mp h
    rw [e]; exact .tail
  | .ref a :: r, h => .cons (refsB_ok h)
  | .none :: r, h => by cases (of_decide_eq_true h : _ = T); exact .tail
  | .ellipsis :: r, h => by cases (of_decide_eq_true h : _ = T); exact .tail
  | .notImplemented :: r, h => by cases (of_decide_eq_true h : _ = T); exact .tail
  | .bool _ :: r, h => by cases (of_decide_eq_true h : _ = T); exact .tail
  | .int _ _ :: r, h => by cases (of_decide_eq_true h : _ = T); exact .tail
  | .float _ _ :: r, h => by cases (of_decide_eq_true h : _ = T); exact .tail
  | .str _ _ :: r, h => by cases (of_decide_eq_true h : _ = T); exact .tail
  | .bytes _ _ :: r, h => by cases (of_decide_eq_true h : _ = T); exact .tail
  | .type _ :: r, h => by cases (of_decide_eq_true h : _ = T); exact .tail
  | .builtin _ :: r, h => by cases (of_decide_eq_true h : _ = T); exact .tail
def excO (K : PySem.W.Frag) (C : Addr) (T : List Value) (nw : String) : Bool := match K.lookup C with
  | some ⟨.type "type", _, .cls cd, sl⟩ => (match cd.mro, sl.toList with
    | .ref C' :: bm, [_, _, _, _, some (.builtin n), _] => C' == C && (n == nw && (!cd.hasDel && (cd.hasDict && refsB T bm)))
    | _, _ => false)
  | _ => false
theorem excO_ok {K : PySem.W.Frag} {C : Addr} {T : List Value} {nw : String} (h : excO K C T nw = true) : ∃ nm q N bs bm sn sub ab col dd k0 k1 k2 k3 k5, K.lookup C = some (excClassObj nm q C N bs bm true sn sub ab col dd k0 k1 k2 k3 k5 nw) ∧ RefsT T bm := by
  unfold excO at h
  split at h
  · rename_i dd cd sl ho
    split at h
    · rename_i C' bm k0 k1 k2 k3 n k5 em es
      obtain ⟨z1, h⟩ := ba h
      obtain ⟨z2, h⟩ := ba h
      obtain ⟨z3, h⟩ := ba h
      obtain ⟨z4, z5⟩ := ba h
      cases beq_iff_eq.mp z1
      cases beq_iff_eq.mp z2
      obtain ⟨nm, bs, mro, ns, qn, hd, sn, sub, ab, col, del⟩ := cd
      dsimp only at em z3 z4 z5
      subst em z4
      have z3' : del = false := by simpa using z3
      subst z3'
      obtain ⟨l⟩ := sl
      dsimp only at es
      subst es
      exact ⟨nm, qn, ns, bs, bm, sn, sub, ab, col, dd, k0, k1, k2, k3, k5, ho, refsB_ok z5⟩
    · cases h
  · cases h
/-- an own exception class over B -/
def xExc (x : Str) (nw : String) (T : List Value) : Xf := fun K => excO K (ga K x) T nw && (eqO (PySem.W.findIn K (.ref (ga K x)) "__setattr__") (some (some (.builtin "object.__setattr__"))) && (decide (PySem.W.subIn K (.ref (ga K x)) (.type "BaseException") = some true) &&
  (decide (PySem.W.typeIn K (.ref (ga K x)) = some (.type "type")) && PySem.W.keepIn K (.ref (ga K x)))))
theorem xExc_ok {K : PySem.W.Frag} {x : Str} {B nw ini : String} {T : List Value} (E : EBase B nw ini T) (h : xExc x nw T K = true) : ExC K B nw ini T (ga K x) := by
  obtain ⟨h1, h⟩ := ba h
  obtain ⟨h2, h⟩ := ba h
  obtain ⟨h3, h⟩ := ba h
  obtain ⟨h4, h5⟩ := ba h
  exact ⟨E, excO_ok h1, eqO_ok h2, of_decide_eq_true h3, of_decide_eq_true h4, h5⟩
/-- .. with an __init__ of its own -/
def xIni (x : Str) : Xf := fun K => eqO (PySem.W.findIn K (.ref (ga K x)) "__init__") (some (some (.ref (ma K (ga K x) "__init__")))) && decide (PySem.W.typeIn K (.ref (ma K (ga K x) "__init__")) = some (.type "function"))
theorem xIni_ok {K : PySem.W.Frag} {x : Str} (h : xIni x K = true) : PySem.W.findIn K (.ref (ga K x)) "__init__" = some (some (.ref (ma K (ga K x) "__init__"))) ∧ PySem.W.typeIn K (.ref (ma K (ga K x) "__init__")) = some (.type "function") := by
  obtain ⟨h1, h2⟩ := ba h
  exact ⟨eqO_ok h1, of_decide_eq_true h2⟩
def xNo (x f : Str) : Xf := fun K => eqO (PySem.W.findIn K (.ref (ga K x)) f) (some none)
theorem xNo_ok {K : PySem.W.Frag} {x f : Str} (h : xNo x f K = true) : PySem.W.findIn K (.ref (ga K x)) f = some none := eqO_ok h
/-- the base's name, an own class -/
def cfB (K : PySem.W.Frag) (D : Value) (ini : String) : Bool := match PySem.W.findCls K D (.type "type") "__init__" with
  | some (.val (.builtin n)) => n == ini
  | _ => false
theorem cfB_ok {K : PySem.W.Frag} {D : Value} {ini : String} (h : cfB K D ini = true) : PySem.W.findCls K D (.type "type") "__init__" = some (.val (.builtin ini)) := by
  unfold cfB at h
  split at h
  · rename_i n e
    rw [e, beq_iff_eq.mp h]
  · cases h
def xBaseO (bn : Str) (ini : String) : Xf := fun K => PySem.W.readsIn K (ga K bn) (.type "type") && (eqO (PySem.W.specialIn K (.ref (ga K bn)) "__getattribute__") (some (some (.builtin "type.__getattribute__"))) && cfB K (.ref (ga K bn)) ini)
theorem xBaseO_ok {K : PySem.W.Frag} {mg : Mg} {bn : Str} {ini : String} (h : xBaseO bn ini K = true) (hg : mg bn = some (.ref (ga K bn))) (hd : PySem.W.handedIn (.builtin ini) = true := by rfl) : BaseIni K mg bn ini := by
  obtain ⟨h1, h⟩ := ba h
  obtain ⟨h2, h3⟩ := ba h
  exact ⟨.inl ⟨_, hg, h1, eqO_ok h2, cfB_ok h3⟩, hd⟩
def xBaseB (B ini : String) : Xf := fun K => cfB K (.type B) ini
theorem xBaseB_ok {K : PySem.W.Frag} {mg : Mg} {bn : Str} {B ini : String} (h : xBaseB B ini K = true) (hm : mg bn = none) (hv : bootBuiltins bn = some (.type B)) (ht : typeOf (.type B) = pure (.type "type")) (hs : Manifest.isStub B = false) (hn : bn ≠ "__name__" := by decide) (hd : PySem.W.handedIn (.builtin ini) = true := by rfl) : BaseIni K mg bn ini :=
  ⟨.inr ⟨B, hm, hv, hn, ht, hs, cfB_ok h⟩, hd⟩
/-! properties, classmethods -/
def xProp (c f : Str) : Xf := fun K => eqO (PySem.W.findIn K (.ref (ga K c)) f) (some (some (.ref (mA c f K)))) && (eqO (PySem.W.specialIn K (.ref (mA c f K)) "__get__") (some (some (.builtin "property.__get__"))) && (decide (PySem.W.takesIn K (.ref (mA c f K)) = some true) && (match PySem.W.recIn K (mA c f K) "property" with
  | some (.ref _ :: _) => true
  | _ => false)))
theorem xProp_ok {K : PySem.W.Frag} {c f : Str} (h : xProp c f K = true) : PropOf K (ga K c) f (mA c f K) (pA c f K) := by
  obtain ⟨h1, h⟩ := ba h
  obtain ⟨h2, h⟩ := ba h
  obtain ⟨h3, h4⟩ := ba h
  refine ⟨eqO_ok h1, eqO_ok h2, of_decide_eq_true h3, ?_⟩
  split at h4
  · rename_i g r e
    refine ⟨r, ?_⟩
    have e' : pA c f K = g := by
      unfold pA recA
      have e2 : PySem.W.recIn K (ma K (ga K c) f) "property" = some (.ref g :: r) := e
      rw [e2]
    rw [e', e]
  · cases h4
/-! ### written data -/
def dvB (K : PySem.W.Frag) : Nat → D → Value → Bool
  | 0, _, _ => false
  | n + 1, d, u => match d, u with
    | .non, .none => true
    | .bl a, .bool b => a == b
    | .int i, .int j _ => decide (i = j)
    | .str x, .str y _ => decide (x = y)
    | .tup ds, .ref a => (match K.lookup a with
      | some ⟨.type c, _, .seq its _, _⟩ => c == "tuple" && (decide (its.size ≤ sizeLine) && dvAll (dvB K n) ds its.toList)
      | _ => false)
    | _, _ => false
where dvAll (f : D → Value → Bool) : List D → List Value → Bool
  | [], [] => true
  | d :: ds, u :: us => f d u && dvAll f ds us
  | _, _ => false
mutual
theorem dvB_ok {K : PySem.W.Frag} {mg : Mg} : ∀ (n : Nat) (d : D) (u : Value), dvB K n d u = true → ∃ v, RelV v u ∧ ∀ r H, RelD K mg r H d v
  | 0, _, _, h => by unfold dvB at h; cases h
  | n + 1, d, u, h => by
    unfold dvB at h
    split at h
    · exact ⟨.non, rfl, fun _ _ => .non⟩
    · cases beq_iff_eq.mp h; exact ⟨.bl _, rfl, fun _ _ => .bl _⟩
    · cases of_decide_eq_true h; exact ⟨.int _, ⟨_, rfl⟩, fun _ _ => .int _⟩
    · cases of_decide_eq_true h; exact ⟨.str _, ⟨_, rfl⟩, fun _ _ => .str _⟩
    · rename_i ds a
      split at h
      · rename_i c dd its m sl e
        obtain ⟨h1, h⟩ := ba h
        obtain ⟨h2, h3⟩ := ba h
        obtain ⟨vs, h4, h5⟩ := dvAll_ok n ds its.toList h3
        refine ⟨.ref a, rfl, fun r H => .tup (.inr ⟨_, its, m, e, ?_, rfl, of_decide_eq_true h2, h4⟩) (h5 r H)⟩
        exact congrArg Value.type (beq_iff_eq.mp h1)
      · cases h
    · cases h
theorem dvAll_ok {K : PySem.W.Frag} {mg : Mg} : ∀ (n : Nat) (ds : List D) (us : List Value), dvB.dvAll (dvB K n) ds us = true → ∃ vs, Vals vs us ∧ ∀ r H, RelDs K mg r H ds vs
  | _, [], [], _ => ⟨[], .nil, fun _ _ => .nil⟩
  | _, [], _ :: _, h => by unfold dvB.dvAll at h; cases h
  | _, _ :: _, [], h => by unfold dvB.dvAll at h; cases h
  | n, d :: ds, u :: us, h => by
    unfold dvB.dvAll at h
    obtain ⟨h1, h2⟩ := ba h
    obtain ⟨v, a1, a2⟩ := dvB_ok n d u h1
    obtain ⟨vs, b1, b2⟩ := dvAll_ok n ds us h2
    exact ⟨v :: vs, .cons a1 b1, fun r H => .cons (a2 r H) (b2 r H)⟩
end
/-- a constant of the module -/
def xCon (x : Str) (d : D) : Xf := fun K => match PySem.W.nsIn K mainGlobals x with
  | some (some u) => dvB K 9 d u
  | _ => false
theorem xCon_ok {K : PySem.W.Frag} {mg : Mg} {h : Heap} {x : Str} {d : D} (X : K.In h) (G : h.Ns mainGlobals mg) (e : xCon x d K = true) : ∃ u v, mg x = some u ∧ RelV v u ∧ ∀ r H, RelD K mg r H d v := by
  unfold xCon at e
  split at e
  · rename_i u en
    obtain ⟨v, h1, h2⟩ := dvB_ok 9 d u e
    exact ⟨u, v, PySem.W.mg_of X G en, h1, h2⟩
  · cases e
/-- a table's values -/
def xTab (x : Str) (tab : List (Str × D)) : Xf := fun K => tab.all fun q => match PySem.W.nsIn K (ga K x) q.1 with
  | some (some u) => dvB K 9 q.2 u
  | _ => false
theorem lookup_mem' {z : Str} {d : D} : ∀ {tab : List (Str × D)}, tab.lookup z = some d → (z, d) ∈ tab
  | [], h => by cases h
  | (k, e) :: r, h => by
    rw [List.lookup_cons] at h
    by_cases q : (z == k) = true
    · rw [q] at h
      cases h
      cases beq_iff_eq.mp q
      exact List.mem_cons_self
    · have q' : (z == k) = false := by simpa using q
      rw [q'] at h
      exact List.mem_cons_of_mem _ (lookup_mem' h)
theorem lookup_none' {z : Str} : ∀ {tab : List (Str × D)}, tab.lookup z = none → z ∉ tab.map (·.1)
  | [], _ => by simp
  | (k, e) :: r, h => by
    rw [List.lookup_cons] at h
    by_cases q : (z == k) = true
    · rw [q] at h; cases h
    · have q' : (z == k) = false := by simpa using q
      rw [q'] at h
      simp only [List.map_cons, List.mem_cons, not_or]
      exact ⟨fun e => by rw [e] at q; simp at q, lookup_none' h⟩
theorem keys_of {P : Params} {z : Str} : ∀ {l : List DictEntry} {ks : List Str}, l.map keyOf = keysIn P ks → z ∉ ks → l.find? (fun e => e.key.isStr z) = none ∧ l.any (·.refKey) = false
  | [], _, _, _ => ⟨rfl, rfl⟩
  | e :: r, [], h, _ => by cases h
  | e :: r, k :: ks, h, hz => by
    have h1 : keyOf e :: r.map keyOf = some (k, PyData.keyHash P k) :: keysIn P ks := h
    injection h1 with h2 h3
    obtain ⟨i1, i2⟩ := keys_of h3 fun m => hz (List.mem_cons_of_mem _ m)
    unfold He.keyOf at h2
    split at h2
    · rename_i x t q
      obtain ⟨h5, _⟩ := Prod.mk.inj (Option.some.inj h2)
      subst h5
      have hne : (x == z) = false := by
        cases b : (x == z) with
        | false => rfl
        | true => exact absurd (by rw [beq_iff_eq.mp b]; exact List.mem_cons_self) hz
      have e1 : e.key.isStr z = false := by rw [q]; exact hne
      have e2 : e.refKey = false := by unfold DictEntry.refKey; rw [q]
      exact ⟨by rw [List.find?_cons, e1]; exact i1, by rw [List.any_cons, e2, i2]; rfl⟩
    · cases h2
theorem tab_ok {K : PySem.W.Frag} {mg : Mg} {w : World} {x : Str} {tab : List (Str × D)} (hg : mg x = some (.ref (ga K x))) (hd : dicW K (ga K x) = some (keysIn w.params (tab.map (·.1)))) (hv : xTab x tab K = true) : KTab K w mg x tab := by
  obtain ⟨es, n, kd⟩ := He.dicW_ok hd
  refine ⟨ga K x, es, n, hg, kd, fun z hz => ?_, fun z d hz => ?_⟩
  · have hk : es.toList.map keyOf = keysIn w.params (tab.map (·.1)) := by
      unfold He.dicW at hd
      rw [kd.at_] at hd
      dsimp only at hd
      split at hd
      · exact Option.some.inj hd
      · cases hd
    obtain ⟨e1, e2⟩ := keys_of hk (lookup_none' hz)
    unfold PySem.W.nsIn
    rw [kd.at_]
    dsimp only
    rw [e1]
    dsimp only
    rw [e2]
    rfl
  · have hm := List.all_eq_true.mp hv _ (lookup_mem' hz)
    dsimp only at hm
    split at hm
    · rename_i u eu
      obtain ⟨v, h1, h2⟩ := dvB_ok (mg := mg) 9 d u hm
      exact ⟨u, v, eu, h1, h2⟩
    · cases hm
end Lw

namespace Lw
open PySem PySem.Spec PyProof.Rows L2

/-! ### a def as it may be called, with no place told -/
structure FdG (P : Program) (w : World) (K : PySem.W.Frag) (mg : Mg) (base : Heap) (k : Nat) (f : Addr) (u : Spec) (dd : List D) : Prop where
  ex : ∃ fd ps dvs ds, FnG P w K mg base k f fd ps (spOf K mg u) ∧ Binds K fd ps ds ∧ Vals dvs ds ∧ ∀ r H, RelDs K mg r H dd dvs
  kp : PySem.W.keepIn K (.ref f) = true
theorem FdG.fn {X : Cx} {j k : Nat} {f : Addr} {u : Spec} {dd : List D} (h : FdG X.prog X.w X.K X.mg X.base j f u dd) (l : j ≤ k) : Fn X k f u dd :=
  let ⟨⟨fd, ps, dvs, ds, a, b, c, d⟩, kp⟩ := h
  ⟨⟨fd, ps, dvs, ds, a.mono l, b, c, d⟩, kp⟩
theorem fdg_of {P : Program} {w : World} {K : PySem.W.Frag} {mg : Mg} {base : Heap} {x qual : Str} {params : Arguments} {bd : List Stmt} {scope : Scope} {f : Addr} {fd : FuncData} {k : Nat} {ps : List Str} {u : Spec}
    (F : FunD K x qual params bd scope [] [] f fd) (G : FnG P w K mg base k f fd ps (spOf K mg u))
    (hb : ∀ (kV doc pm : Value) (an : Option Addr) (cdv ct : Value) (us : List Value), us.length = ps.length → bindArgs (PySem.W.fnOf x qual params bd scope .none kV doc pm an cdv ct) ⟨us, []⟩ = pure (ps.zip us)) : FdG P w K mg base k f u [] :=
  ⟨⟨fd, ps, [], [], G, F.bindsN hb, .nil, fun _ _ => .nil⟩, F.kp⟩
theorem vals_of_ints {vs : List Value} {ns : List Int} (h : IntsAre vs ns) : Vals (ns.map V.int) vs := vals_ints h
theorem relDs_ints {K : PySem.W.Frag} {mg : Mg} {r : List Addr} {H : Hp} : ∀ ns : List Int, RelDs K mg r H (ns.map D.int) (ns.map V.int)
  | [] => .nil
  | n :: ns => .cons (.int n) (relDs_ints ns)
/-- the law's end -/
theorem walk_ofG {l : PySem.W.OpenLaw} {n k : Nat} {q : Program} {loose : List Str} {XP : (Str → Option Value) → Heap → Prop} {YP : World → Heap → Prop} {d : DefRec} {x : Str}
    (hn : l.most = some n) (hn2 : n ≤ sizeLine) (hdf : d.params.defaults = []) (hr : Room k callerA)
    (F : ∀ (w : World) (mg : Mg) (f : Addr) (h : Heap), YP w h → h.Ns mainGlobals mg → mg d.name = some (.ref f) →
      ∃ (K : PySem.W.Frag) (fd : FuncData) (u : Spec), K.In h ∧ (∀ a o, K.lookup a = some o → keepO o = true) ∧ (∀ (s : Shared) (v : Value), BindsTo s fd ⟨[v], []⟩ [(x, v)]) ∧
        (∀ ns : List Int, ns.length ≤ n → (∀ i ∈ ns, Builtin.Int.intBits i ≤ 1048576) → u [.ref 0] [.frz (ns.map D.int)] (fun d _ => d = .bl true) fun _ _ => False) ∧
        ∀ base : Heap, FnG l.prog w K mg base k f fd [x] (spOf K mg u)) :
    PySem.W.WalkO q loose XP YP l.row.toRowW d [] (fun f vs => PySem.call f vs) := by
  refine Att.attach_callB hn hdf fun w s₀ s₁ mg mb f o pm cd doc a vs ns G Y ho hd hcd hmg hobj hints hlen hbits hg => ?_
  obtain ⟨K, fd, u, KX, kk, hb, hsp, hF⟩ := F w mg f _ Y G.T.g hmg
  have hk : K.lookup a = none := by
    cases e : K.lookup a with
    | none => rfl
    | some ob =>
      have e1 := KX a ob e
      rw [hobj] at e1
      cases e1
      have z := kk a _ e
      cases (show false = true from z)
  have rv := vals_of_ints hints
  let H : Hp := fun b => if b = a then some (.frz { cls := .type "list", data := .seq vs.toArray } (.lst (ns.map V.int))) else none
  have Ha : H a = some (.frz { cls := .type "list", data := .seq vs.toArray } (.lst (ns.map V.int))) := if_pos rfl
  have Hn : ∀ b, b ≠ a → H b = none := fun b nb => if_neg nb
  have hok : HOk l.prog w H s₁.heap := fun b u z => by
    by_cases e : b = a
    · subst e
      rw [Ha] at z; cases z
      exact ⟨hobj, by rw [List.length_map]; exact Nat.le_trans hlen hn2, vs, _, rv, hobj⟩
    · rw [Hn b e] at z; cases z
  have out : ∀ {b : Addr} {ob : Obj}, s₁.heap.get? b = some ob → b ≠ a → (hidT s₁.heap H).get? b = some ob := fun e nb => hidT_get e (Hn _ nb)
  have dic : ∀ {b : Addr} {ob : Obj} {es : Array DictEntry} {ep : Nat}, s₁.heap.get? b = some ob → ob.data = .dict es ep → b ≠ a := fun {b ob es ep} e d z => by
    subst z
    rw [hobj] at e; cases e
    have d' : Data.seq vs.toArray _ = Data.dict es ep := d
    cases d'
  have nsK : ∀ {b : Addr} {m : Str → Option Value}, s₁.heap.Ns b m → (hidT s₁.heap H).Ns b m := fun {b m} ⟨ob, es, ep, e, d, r⟩ => ⟨ob, es, ep, out e (dic e d), d, r⟩
  have kin : K.In (hidT s₁.heap H) := fun b ob e => out (KX b ob e) fun z => by rw [z, hk] at e; cases e
  have hM : Mod K mg (hidT s₁.heap H) := ⟨kin, nsK G.T.g, ⟨mb, nsK G.T.b, G.T.builtins⟩, let ⟨mc, h1, h2⟩ := G.T.nolimit; ⟨mc, nsK h1, h2⟩⟩
  have e0 : Env0 l.prog w K mg (hidT s₁.heap H) callerA [] s₁ H := ⟨rfl, hM, fun b ob e => of_hidT e, Nat.le_of_eq (hidT_size _ _), trivial, fun b hb => absurd (show b ∈ ([] : List Addr) from hb) (by simp), hok, .of_eq hg⟩
  have sim : Sim K mg [a] H [.frz (ns.map D.int)] := by
    refine ⟨rfl, by simp, fun i o b h1 h2 => ?_⟩
    match i, h1, h2 with
    | 0, h1, h2 =>
      cases h1; cases h2
      exact .frz Ha (relDs_ints ns)
    | i + 1, h1, _ => simp at h1
  have sp : spOf K mg u [.ref a] H (fun v _ => v = .bl true) fun _ _ _ => False := by
    refine ⟨[a], _, [.ref 0], _, _, sim, .cons (.ref rfl) .nil, hsp ns hlen hbits, fun d S' r' v H' hq _ _ rd => ?_, fun _ _ _ _ _ _ h _ _ _ => h⟩
    subst hq
    cases rd
    rfl
  refine codeAny_mono ((hF (hidT s₁.heap H)).run callerA [] s₁ H ⟨[.ref a], []⟩ [.ref a] [.ref a] _ _ hr rfl e0 (hb s₁ (.ref a)) (.cons rfl .nil) sp) fun r s' h => ?_
  cases r with
  | error e =>
    obtain ⟨_, _, _, _, _, _, _, _, _, _, _, _, z⟩ := h
    exact z.elim
  | ok fl =>
    cases fl with
    | next => exact False.elim h
    | brk => exact False.elim h
    | cont => exact False.elim h
    | ret uv =>
      obtain ⟨v, H', os, bare, un, hok', r', q'⟩ := h
      subst q'
      obtain rfl : uv = Value.bool true := r'
      refine ⟨rfl, OldK.of_keep fun b ob e => ?_, os, bare⟩
      by_cases nb : b = a
      · subst nb
        have z2 := un.frzs b _ _ Ha
        obtain ⟨e2, _⟩ := hok' b _ z2
        rw [hobj] at e; cases e
        exact e2
      · exact un.keep b ob e (Hn b nb) (by intro z; exact absurd (show b ∈ ([] : List Addr) from z) (by simp)) (by simp)
end Lw

namespace Lw
open PySem PySem.Spec PyProof.Rows L2

/-! ### room -/
theorem CallOk.u64 {X : Cx} {c : Cn} {k : Nat} (h : CallOk X c k) : X.A.units + 64 < cLine := by have := h.room.un; omega
theorem CallOk.u65 {X : Cx} {c : Cn} {k : Nat} (h : CallOk X c k) : X.A.units + 65 < cLine := by have := h.room.un; omega
theorem CallOk.u70 {X : Cx} {c : Cn} {k : Nat} (h : CallOk X c k) : X.A.units + 70 < cLine := by have := h.room.un; omega
theorem CallOk.u0 {X : Cx} {c : Cn} {k : Nat} (h : CallOk X c k) : X.A.units < cLine := by have := h.room.un; omega
/-! ### o[i] = e -/
def noQ : QX := fun _ _ => False
theorem goX_no {c : Cn} {r : List Addr} {H : Hp} {s : L2.St} : GoX c r H s noQ := fun _ _ _ _ _ _ h _ _ _ => h.elim
def gmSub (o i : ME) : MG := fun d sd S k => o sd S (fun dx S1 => i sd S1 (fun di S2 => match dx, di with
  | .ref n, .int j => (match lstO S2 n with
    | some ds => (match ixN ds.length j with
      | some p => k sd (S2.set n (.lst (ds.set p d)))
      | none => False)
    | none => False)
  | _, _ => False) noQ) noQ
theorem RelDs.set {K : PySem.W.Frag} {mg : Mg} {r : List Addr} {H : Hp} : ∀ {ds : List D} {vs : List V} {d : D} {v : V} (j : Nat), RelDs K mg r H ds vs → RelD K mg r H d v → RelDs K mg r H (ds.set j d) (vs.set j v)
  | _, _, _, _, _, .nil, _ => .nil
  | _, _, _, _, 0, .cons _ q, h => .cons h q
  | _, _, _, _, j + 1, .cons a q, h => .cons a (RelDs.set j q h)
section
variable {X : Cx} {c : Cn} {m ma mb mc : ME} {a b e o i : Expr} {es : List Expr} {mr : MA} {p pos apos : Pos} {k : Nat} {f C : Addr} {u : Spec} {cn : Str}
theorem gm_sub (ho : PE X o (tE c ma)) (hi : PE X i (tE c mb))
    (h : ∀ v, assign (.Subscript o i pos) X.env v = (do
      let ov ← holding [v] (eval o X.env)
      let iv ← holding [v, ov] (eval i X.env)
      standAt pos
      holding [v, ov, iv] (setItem ov iv v)
      release [v, ov, iv] []) := by intro _; rfl) : PG X (.Subscript o i pos) (tGm c (gmSub ma mb)) := weakG (pg_sub ho hi set_list h) fun v s H Q z => by
  obtain ⟨r, S, sd, d, kk, a, rd, hg, n⟩ := z
  refine ⟨r, S, sd, _, noQ, a, hg, fun dx S1 r1 ov H1 h1 t1 sm1 rd1 => ?_, goX_no⟩
  refine ⟨r1, S1, sd, _, noQ, a.step t1 sm1, h1, fun di S2 r2 iv H2 h2 t2 sm2 rd2 => ?_, goX_no⟩
  dsimp only at h2
  split at h2
  · rename_i nn j
    split at h2
    · rename_i ds es
      split at h2
      · rename_i p ep
        obtain ⟨aa, vs, rfl, er, eH, rvs⟩ := lst_of sm2 (rd1.mono t2) es
        cases rd2
        have rdv := (rd.mono t1).mono t2
        refine ⟨aa, vs, j, p, rfl, rfl, eH, by rw [← rvs.length]; exact ep, ?_⟩
        have ha : aa ∈ r2 := List.mem_iff_getElem?.mpr ⟨nn, er⟩
        have nf : ∀ ob u, H2 aa ≠ some (.frz ob u) := fun ob u z => by rw [eH] at z; cases z
        have t3 : Stp r2 H2 r2 (upd H2 aa (.lst (vs.set p v))) := Stp.write sm2 ha nf
        exact n sd _ r2 s _ h2 ((t1.trans t2).trans t3) (sm2.write er nf (.lst upd_same ((rvs.set p rdv).mono t3))) (((a.rel.mono t1).mono t2).mono t3)
      · exact h2.elim
    · exact h2.elim
  · exact h2.elim
/-! ### truth -/
def truD (S : Sto) : D → Option Bool
  | .non => some false
  | .bl b => some b
  | .int i => some (i != 0)
  | .str z => if z.length ≤ sizeLine then some ((z.length : Int) != 0) else none
  | .tup ds => some (!ds.isEmpty)
  | .ref n => (seqO S n).map fun ds => !ds.isEmpty
  | _ => none
theorem isEmpty_rs {K : PySem.W.Frag} {mg : Mg} {r : List Addr} {H : Hp} {ds : List D} {vs : List V} (h : RelDs K mg r H ds vs) : vs.isEmpty = ds.isEmpty := by cases h <;> rfl
theorem truD_ok {r : List Addr} {H : Hp} {S : Sto} {d : D} {v : V} {b : Bool} (sm : c.Sm r H S) (rd : c.Rd r H d v) (h : truD S d = some b) : TruV c.K v H b := by
  cases d with
  | non => cases rd; cases h; rfl
  | bl _ => cases rd; cases h; rfl
  | int _ => cases rd; cases h; rfl
  | nm _ => cases h
  | adr _ => cases h
  | str z =>
    cases rd
    unfold truD at h
    dsimp only at h
    split at h
    · rename_i hz; cases h; exact ⟨hz, rfl⟩
    · cases h
  | tup ds =>
    obtain ⟨a, vs, rfl, h1, h2⟩ := tup_of rd
    cases h
    exact .inr (.inl ⟨vs, h1, by rw [isEmpty_rs h2]⟩)
  | ref n =>
    unfold truD at h
    dsimp only at h
    cases e : seqO S n with
    | none => rw [e] at h; cases h
    | some ds =>
      rw [e] at h
      cases h
      obtain ⟨a, vs, rfl, _, h1, h2⟩ := seq_of sm rd e
      exact .inl ⟨vs, h1, by rw [isEmpty_rs h2]⟩
def mtT (m : ME) : MT := fun sd S q x => m sd S (fun d S1 => match truD S1 d with
  | some b => q b S1
  | none => False) x
theorem mt_tru (hK : c.K = X.K) (ha : PE X a (tE c m)) (he : ∀ whole, isTrue a X.env whole = (do let v ← whole; standAt a.pos; holding [v] (truthy v)) := by intro _; rfl) : PT X a (tT c (mtT m)) := weakT (pt_truth ha he) fun s H Q z => by
  obtain ⟨r, S, sd, q, x, a, hm, g, gx⟩ := z
  refine ⟨r, S, sd, _, x, a, hm, fun d S1 r1 v H1 h1 t1 s1 rd1 => ?_, gx⟩
  dsimp only at h1
  split at h1
  · rename_i b eb
    exact ⟨b, by rw [← hK]; exact truD_ok s1 rd1 eb, g b S1 r1 H1 h1 t1 s1⟩
  · exact h1.elim
def mOrT (a b : ME) : ME := fun sd S q x => a sd S (fun d S1 => match truD S1 d with
  | some k => if k = true then q d S1 else b sd S1 q x
  | none => False) x
def mAndT (a b : ME) : ME := fun sd S q x => a sd S (fun d S1 => match truD S1 d with
  | some k => if k = true then b sd S1 q x else q d S1
  | none => False) x
theorem me_orT {rest : List Expr} (hK : c.K = X.K) (ha : PE X a (tE c ma)) (hb : PE X (.BoolOp .Or (b :: rest) pos) (tE c mb)) : PE X (.BoolOp .Or (a :: b :: rest) pos) (tE c (mOrT ma mb)) := weakE (pe_orT ha hb) fun s H Q z => by
  obtain ⟨r, S, sd, q, x, a, hm, g, gx⟩ := z
  refine ⟨r, S, sd, _, x, a, hm, fun d S1 r1 v H1 h1 t1 s1 rd1 => ?_, gx⟩
  dsimp only at h1
  split at h1
  · rename_i k ek
    refine ⟨k, by rw [← hK]; exact truD_ok s1 rd1 ek, ?_⟩
    cases k with
    | true => rw [if_pos rfl] at h1 ⊢; exact g d S1 r1 v H1 h1 t1 s1 rd1
    | false => rw [if_neg Bool.false_ne_true] at h1 ⊢; exact ⟨r1, S1, sd, q, x, a.step t1 s1, h1, g.step t1, gx.step t1⟩
  · exact h1.elim
theorem me_andT {rest : List Expr} (hK : c.K = X.K) (ha : PE X a (tE c ma)) (hb : PE X (.BoolOp .And (b :: rest) pos) (tE c mb)) : PE X (.BoolOp .And (a :: b :: rest) pos) (tE c (mAndT ma mb)) := weakE (pe_andT ha hb) fun s H Q z => by
  obtain ⟨r, S, sd, q, x, a, hm, g, gx⟩ := z
  refine ⟨r, S, sd, _, x, a, hm, fun d S1 r1 v H1 h1 t1 s1 rd1 => ?_, gx⟩
  dsimp only at h1
  split at h1
  · rename_i k ek
    refine ⟨k, by rw [← hK]; exact truD_ok s1 rd1 ek, ?_⟩
    cases k with
    | true => rw [if_pos rfl] at h1 ⊢; exact ⟨r1, S1, sd, q, x, a.step t1 s1, h1, g.step t1, gx.step t1⟩
    | false => rw [if_neg Bool.false_ne_true] at h1 ⊢; exact g d S1 r1 v H1 h1 t1 s1 rd1
  · exact h1.elim
/-- not e, as a value -/
def mNotB (t : MT) : ME := fun sd S q x => t sd S (fun k S1 => q (.bl (!k)) S1) x
theorem me_notT (hK : c.K = X.K) (ha : PE X a (tE c m)) : PE X (.UnaryOp .Not a pos) (tE c (mNotB (mtT m))) := weakE (pe_notT ha) fun s H Q z => by
  obtain ⟨r, S, sd, q, x, a, hm, g, gx⟩ := z
  refine ⟨r, S, sd, _, x, a, hm, fun d S1 r1 v H1 h1 t1 s1 rd1 => ?_, gx⟩
  dsimp only at h1
  split at h1
  · rename_i b eb
    exact ⟨b, by rw [← hK]; exact truD_ok s1 rd1 eb, g _ S1 r1 _ H1 h1 t1 s1 (.bl _)⟩
  · exact h1.elim
/-! ### a op b op' c -/
def mChain (f f' : MOp) (a b e : ME) : ME := fun sd S q x => a sd S (fun d1 S1 => b sd S1 (fun d2 S2 => f d1 d2 S2 (fun d3 S3 => match d3 with
  | .bl k => if k = true then e sd S3 (fun d4 S4 => f' d2 d4 S4 q) x else q (.bl false) S3
  | _ => False)) x) x
theorem chain_of {R R' : R2} {f f' : MOp} (w : ∀ v u H Q, rOp c f v u H Q → R v u H Q) (w' : ∀ v u H Q, rOp c f' v u H Q → R' v u H Q) : ∀ s H Q, tE c (mChain f f' ma mb mc) s H Q → tChain R R' (tE c ma) (tE c mb) (tE c mc) s H Q := fun s H Q z => by
  obtain ⟨r, S, sd, q, x, a, hm, g, gx⟩ := z
  refine ⟨r, S, sd, _, x, a, hm, fun d1 S1 r1 v H1 h1 t1 s1 rd1 => ?_, gx⟩
  refine ⟨r1, S1, sd, _, x, a.step t1 s1, h1, fun d2 S2 r2 u H2 h2 t2 s2 rd2 => ?_, gx.step t1⟩
  refine w _ _ _ _ ⟨r2, S2, d1, d2, _, s2, rd1.mono t2, rd2, h2, fun d3 S3 r3 y H3 h3 t3 s3 rd3 => ?_⟩
  have t13 := (t1.trans t2).trans t3
  cases rd3 with
  | bl k =>
    refine ⟨k, rfl, ?_⟩
    dsimp only at h3
    cases k with
    | true =>
      rw [if_pos rfl] at h3 ⊢
      exact ⟨r3, S3, sd, _, x, a.step t13 s3, h3, fun d4 S4 r4 y4 H4 h4 t4 s4 rd4 => w' _ _ _ _ ⟨r4, S4, d2, d4, q, s4, (rd2.mono t3).mono t4, rd4, h4, (g.step t13).step t4⟩, gx.step t13⟩
    | false => rw [if_neg Bool.false_ne_true] at h3 ⊢; exact g _ S3 r3 _ H3 h3 t13 s3 (.bl _)
  | _ => exact h3.elim
theorem me_chain {op op' : CmpOp} {f f' : MOp} (h : OpM X c (compareOp op) f) (h' : OpM X c (compareOp op') f') (ha : PE X a (tE c ma)) (hb : PE X b (tE c mb)) (hc : PE X e (tE c mc)) (hm : lastMarks [op, op'] [b, e] = false := by with_unfolding_all rfl) :
    PE X (.Compare a [op, op'] [b, e] pos) (tE c (mChain f f' ma mb mc)) := by
  obtain ⟨R, ho, w⟩ := h.ok
  obtain ⟨R', ho', w'⟩ := h'.ok
  exact weakE (pe_chain ho ho' ha hb hc hm) (chain_of w w')
theorem mt_chain {op op' : CmpOp} {f f' : MOp} (h : OpM X c (compareOp op) f) (h' : OpM X c (compareOp op') f') (ha : PE X a (tE c ma)) (hb : PE X b (tE c mb)) (hc : PE X e (tE c mc)) (hm : lastMarks [op, op'] [b, e] = false := by with_unfolding_all rfl) :
    PT X (.Compare a [op, op'] [b, e] pos) (tT c (mtB (mChain f f' ma mb mc))) := by
  obtain ⟨R, ho, w⟩ := h.ok
  obtain ⟨R', ho', w'⟩ := h'.ok
  exact weakT (pt_chain ho ho' ha hb hc hm) (test_of (chain_of w w'))
/-! ### a class's own method by its name: cn.m(e, ..), m a classmethod -/
structure CmF (X : Cx) (cn m : Str) (g : Addr) : Prop where
  ex : ∃ C mc p, X.mg cn = some (.ref C) ∧ ClX.CRead X.K C mc ∧ ClX.CMet X.K C mc m p g
def mCMeth (cn : Str) (u : Spec) (m : MA) : ME := fun sd S q x => m sd S (fun ds S1 => u (.nm cn :: ds) S1 q x) x
theorem me_cmeth {x mt : Str} {g : Addr} {pl : Sem Bool} (M : CmF X x mt g) (F : Fn X k g u []) (hc : CallOk X c k) (hg : Gl X x) (ha : PA X (e :: es) (tA c mr)) (hdb : (x == ("__debug__" : Str)) = false := by decide)
    (hst : starEach (e :: es) X.env = (false, eval e X.env) :: starEach es X.env := by rfl) (hpl : (backTo pos (starEach es X.env)).any (·.1) = false := by rfl)
    (ht : eval (.Call (.Attribute (.Name x p) mt apos) (e :: es) [] pos) X.env = (do
      let ov ← eval (.Name x p) X.env
      standAt apos.atName
      let (f, first) ← holding [ov] (getMethod ov mt pl)
      callWith pos f first (backTo pos (starEach (e :: es) X.env)) (backToKw pos (keywordEach [] X.env))) := by rfl) :
    PE X (.Call (.Attribute (.Name x p) mt apos) (e :: es) [] pos) (tE c (mCMeth x u mr)) := by
  refine ⟨fun pins s σ H Q I h => ?_⟩
  obtain ⟨C, mc, pa, hm, rd, cm⟩ := M.ex
  refine PySem.W.methodCall_KW (pl := pl) (ld_glob I hg hm ?_ hdb) ht
  obtain ⟨r, S, sd, q, xx, a, hmm, gv, gx⟩ := h
  refine ClX.getmethcm_ok I rd cm fun s2 I2 => ?_
  refine ClX.callwith_cm I2 (ClX.base_none I (Nat.le_refl _)) cm.fi (thn (ha.run pos _ s2 σ H (fun vs H1 => ∃ r1 S1 dl, c.Sm r1 H1 S1 ∧ c.Rs r1 H1 dl vs ∧ u (.nm x :: dl) S1 q xx ∧ Stp r H r1 H1) I2 ⟨r, S, sd, _, xx, a, hmm, fun dl S1 r1 vs H1 h t sm rd => ⟨r1, S1, dl, sm, rd, h, t⟩, gx⟩) fun us s3 ⟨vs, H1, I3, rv, r1, S1, dl, sm, rdl, hu, t⟩ => ⟨⟨ClX.pin_at I3, I3.kIn⟩, ?_⟩) hst hpl
  refine thn (wpAny_call (PySem.W.method_call (ClX.pin_at I3) (fn_code (us := .ref C :: us) (vs := .ref C :: vs) (dl := .nm x :: dl) (Q := Q) F hc I3 (.cons rfl rv) sm (.cons (.nm (by rw [hc.mg]; exact hm)) rdl) hu (gv.step t) (gx.step t)))) fun _ _ y => ClX.unpinE y
end
def xCm (c m : Str) : Xf := fun K => PySem.W.readsIn K (ga' c K) (.type "type") && (He.eqO (PySem.W.specialIn K (.ref (ga' c K)) "__getattribute__") (some (some (.builtin "type.__getattribute__"))) && ((match PySem.W.findCls K (.ref (ga' c K)) (.type "type") m with
  | some (.get (.builtin n) (.ref p) .none (.ref C)) => n == "classmethod.__get__" && (decide (p = mA c m K) && decide (C = ga' c K))
  | _ => false) && ((match PySem.W.recIn K (mA c m K) "classmethod" with
  | some (.ref _ :: _) => true
  | _ => false) && PySem.W.fnIn K (cA c m K))))
where ga' (c : Str) (K : PySem.W.Frag) : Addr := He.ga K c
theorem xCm_ok {X : Cx} {c m : Str} (h : xCm c m X.K = true) (hg : X.mg c = some (.ref (He.ga X.K c))) : CmF X c m (cA c m X.K) := by
  obtain ⟨h1, h⟩ := He.ba h
  obtain ⟨h2, h⟩ := He.ba h
  obtain ⟨h3, h⟩ := He.ba h
  obtain ⟨h4, h5⟩ := He.ba h
  refine ⟨He.ga X.K c, .type "type", mA c m X.K, hg, ⟨h1, He.eqO_ok h2⟩, ?_, ?_, h5⟩
  · split at h3
    · rename_i n p C e
      obtain ⟨z1, h3⟩ := He.ba h3
      obtain ⟨z2, z3⟩ := He.ba h3
      cases beq_iff_eq.mp z1
      cases of_decide_eq_true z2
      have z3 := of_decide_eq_true z3
      rw [z3] at e
      exact e
    · cases h3
  · split at h4
    · rename_i g r e
      refine ⟨r, ?_⟩
      have e' : cA c m X.K = g := by
        unfold cA recA
        have e2 : PySem.W.recIn X.K (He.ma X.K (He.ga X.K c) m) "classmethod" = some (.ref g :: r) := e
        rw [e2]
      rw [e', e]
    · cases h4
end Lw

namespace Lw
open PySem PySem.Spec PyProof.Rows L2

section
variable {X : Cx} {c : Cn} {es : List Expr} {pos p : Pos}
/-- a constant of the module -/
theorem me_con {x : Str} {d : D} (hg : Gl X x) (h : ∃ u v, X.mg x = some u ∧ RelV v u ∧ ∀ r H, RelD X.K X.mg r H d v) (hK : c.K = X.K := by rfl) (hm : c.mg = X.mg := by rfl) (hd : (x == ("__debug__" : Str)) = false := by decide) : PE X (.Name x pos) (tE c (mC d)) := by
  obtain ⟨u, v, h1, h2, h3⟩ := h
  exact me_c (pe_glob hg h1 h2 hd) fun r H => by
    obtain ⟨cK, cmg, cP, cst, cW⟩ := c
    obtain rfl : cK = X.K := hK
    obtain rfl : cmg = X.mg := hm
    exact h3 r H
theorem gm_tup2 {k n : Nat} {h : MGs} (hs : PGs X es (tGms c h)) (hc : X.calm = true := by rfl) (hn : (assignEach es X.env).length = n := by rfl) (hst : (assignEach es X.env).findIdx? (·.1) = none := by rfl) (hK : c.K = X.K := by rfl) : PG X (.Tuple es k pos) (tGm c (gmTup n h)) :=
  gm_tup hK hc hs (pg_tup hc hs hn hst)
end
/-! ### exceptions that are raised, with no place told -/
structure XClsG (P : Program) (w : World) (K : PySem.W.Frag) (mg : Mg) (base : Heap) (cn : Str) (C : Addr) (names : List Str) : Prop where
  ex : ∃ B nw ini T fI fd ps, ExC K B nw ini T C ∧ PySem.W.findIn K (.ref C) "__init__" = some (some (.ref fI)) ∧ PySem.W.typeIn K (.ref fI) = some (.type "function") ∧
    FnOk P w K mg base CX0 1 fI fd ps (spInit C names) ∧ Binds K fd ps [] ∧ names.length ≤ 900
  mg : mg cn = some (.ref C)
theorem XClsG.x {X : Cx} {cn : Str} {C : Addr} {names : List Str} (h : XClsG X.prog X.w X.K X.mg X.base cn C names) : XCls X cn C names := ⟨h.ex, h.mg⟩
/-- the base ValueError -/
theorem eb_ValueError : EBase "ValueError" "ValueError.__new__" "ValueError.__init__" [.type "ValueError", .type "Exception", .type "BaseException", .type "object"] := ⟨PySem.F.excBase_ValueError, fun self => by kernel_rfl, by decide⟩
section
variable {P : Program} {w : World} {K : PySem.W.Frag} {mg : Mg} {base : Heap} {qual : Str} {params : Arguments} {bd : List Stmt} {scope : Scope} {C : Addr} {fd : FuncData} {cn : Str} {B nw ini : String} {T : List Value}
theorem xcls1 {g tx : Str} (E : ExC K B nw ini T (He.ga K cn)) (hm : mg cn = some (.ref (He.ga K cn))) (hi : xIni cn K = true) (F : FunD K "__init__" qual params bd scope [] [] (He.ma K (He.ga K cn) "__init__") fd) (S : FnScope ["self", g] ["self", g] scope)
    (hb : ∀ (cdv : Value) (A : Around) (outer : List Env) (s : Shared) (H : Hp) (E : XK), PSs (cxOf CX0 P w K mg base ["self", g] qual scope (He.ma K (He.ga K cn) "__init__") cdv A outer s H E).nox bd
      (tSeq (tDrop (tEI (He.ga K cn) (tCons (tVar 0) (tCons (tC (.str tx)) tNil)))) (tEst (He.ga K cn) g (tVar 0) (tVar 1))))
    (hbd : ∀ (kV doc pm : Value) (an : Option Addr) (cdv ct : Value) (us : List Value), us.length = (["self", g] : List Str).length → bindArgs (PySem.W.fnOf "__init__" qual params bd scope .none kV doc pm an cdv ct) ⟨us, []⟩ = pure ((["self", g] : List Str).zip us)) : XClsG P w K mg base cn (He.ga K cn) [g] := by
  obtain ⟨h1, h2⟩ := xIni_ok hi
  exact ⟨⟨B, nw, ini, T, _, fd, ["self", g], E, h1, h2, ok_ini1 F S hb, F.bindsN hbd, (show 1 ≤ 900 by decide)⟩, hm⟩
theorem xcls2 {g g2 tx : Str} (E : ExC K B nw ini T (He.ga K cn)) (hm : mg cn = some (.ref (He.ga K cn))) (hi : xIni cn K = true) (F : FunD K "__init__" qual params bd scope [] [] (He.ma K (He.ga K cn) "__init__") fd) (S : FnScope ["self", g, g2] ["self", g, g2] scope)
    (hb : ∀ (cdv : Value) (A : Around) (outer : List Env) (s : Shared) (H : Hp) (E : XK), PSs (cxOf CX0 P w K mg base ["self", g, g2] qual scope (He.ma K (He.ga K cn) "__init__") cdv A outer s H E).nox bd
      (tSeq (tDrop (tEI (He.ga K cn) (tCons (tVar 0) (tCons (tC (.str tx)) tNil)))) (tSeq (tEst (He.ga K cn) g (tVar 0) (tVar 1)) (tEst (He.ga K cn) g2 (tVar 0) (tVar 2)))))
    (hbd : ∀ (kV doc pm : Value) (an : Option Addr) (cdv ct : Value) (us : List Value), us.length = (["self", g, g2] : List Str).length → bindArgs (PySem.W.fnOf "__init__" qual params bd scope .none kV doc pm an cdv ct) ⟨us, []⟩ = pure ((["self", g, g2] : List Str).zip us)) : XClsG P w K mg base cn (He.ga K cn) [g, g2] := by
  obtain ⟨h1, h2⟩ := xIni_ok hi
  exact ⟨⟨B, nw, ini, T, _, fd, ["self", g, g2], E, h1, h2, ok_ini2 F S hb, F.bindsN hbd, (show 2 ≤ 900 by decide)⟩, hm⟩
end
/-! ### clauses -/
def xExm (tab : List (Str × Bool)) (y : Str) : Xf := fun K => tab.all fun q => decide (PySem.W.exmOne K (.ref (He.ga K q.1)) (.ref (He.ga K y)) = some q.2)
theorem tab_of {K : PySem.W.Frag} {mg : Mg} {tab : List (Str × Bool)} {y : Str} (h : xExm tab y K = true) (hg : ∀ q ∈ tab, mg q.1 = some (.ref (He.ga K q.1))) (cn : Str) (b : Bool) (cls : Value) (hl : tab.lookup cn = some b)
    (hx : ∃ (r : List Addr) (H : Hp) (fs : List (Str × D)) (d : Option Addr), RelX K mg r H ⟨cn, fs⟩ cls d) : PySem.W.exmOne K cls (.ref (He.ga K y)) = some b := by
  have hm : ∀ {tab : List (Str × Bool)}, tab.lookup cn = some b → (cn, b) ∈ tab := by
    intro tab
    induction tab with
    | nil => intro h; cases h
    | cons q r ih =>
      obtain ⟨k, e⟩ := q
      intro h
      rw [List.lookup_cons] at h
      by_cases q : (cn == k) = true
      · rw [q] at h
        cases h
        cases beq_iff_eq.mp q
        exact List.mem_cons_self
      · have q' : (cn == k) = false := by simpa using q
        rw [q'] at h
        exact List.mem_cons_of_mem _ (ih h)
  have m := hm hl
  have e := hg _ m
  have z := of_decide_eq_true (List.all_eq_true.mp h _ m)
  obtain ⟨r, H, fs, d, rx⟩ := hx
  cases rx with
  | own0 hc => rw [e] at hc; cases hc; exact z
  | own hc _ _ => rw [e] at hc; cases hc; exact z
  | blt hn => rw [e] at hn; cases hn
def xExR (cn f : Str) : Xf := fun K => PySem.W.hasDictIn K (He.ga K cn) && (He.eqO (PySem.W.findIn K (.ref (He.ga K cn)) f) (some none) && (He.eqO (PySem.W.findIn K (.ref (He.ga K cn)) "__getattribute__") (some (some (.builtin "BaseException.__getattribute__"))) &&
  ((PySem.W.findIn K (.ref (He.ga K cn)) "__getattr__").isSome && decide (PySem.W.subIn K (.ref (He.ga K cn)) (.type "BaseException") = some true))))
theorem xExR_ok {K : PySem.W.Frag} {mg : Mg} {cn f : Str} (h : xExR cn f K = true) (hg : mg cn = some (.ref (He.ga K cn))) : ExR K mg cn f := by
  obtain ⟨h1, h⟩ := He.ba h
  obtain ⟨h2, h⟩ := He.ba h
  obtain ⟨h3, h⟩ := He.ba h
  obtain ⟨h4, h5⟩ := He.ba h
  obtain ⟨gt, e⟩ := Option.isSome_iff_exists.mp h4
  exact ⟨_, gt, hg, h1, He.eqO_ok h2, He.eqO_ok h3, e, of_decide_eq_true h5⟩
end Lw

namespace Lw
open PySem PySem.Spec PyProof.Rows L2

def mNever : MS := fun _ _ _ => False
section
variable {X : Cx} {c : Cn} {k : Nat} {bd : List Stmt} {m : MS}
theorem mss_never : PSs X bd (tS c mNever) := ⟨fun _ _ _ _ _ _ z => by
  obtain ⟨r, S, sd, md, a, hm, g⟩ := z
  exact hm.elim⟩
/-- a suite that reads what one class alone has -/
theorem sIf {h : Prop} [Decidable h] (hp : h → PSs X bd (tS c m)) : PSs X bd (tS c (if h then m else mNever)) := by
  by_cases e : h
  · rw [if_pos e]; exact hp e
  · rw [if_neg e]; exact mss_never
theorem CallOk.tr {pn : List (Addr × Obj)} {xe : Value → Shared → Prop} {W : WX} (h : CallOk X c k) (tk : Takes (X.tr pn xe) W) : CallOk (X.tr pn xe) ⟨c.K, c.mg, c.P, c.st, W⟩ k := ⟨tk, h.room, h.gd, h.K, h.mg⟩
end
theorem Ctx.con {fa : List He.Fa} {fn : List Df} {ts : List Tb} {xs : List Xf} {w : World} {K : PySem.W.Frag} {mg : Mg} {x : Str} {d : D} (c : Ctx fa fn ts xs w K mg) (i : Nat) (h : xs[i]? = some (xCon x d) := by rfl) : ∃ u v, mg x = some u ∧ RelV v u ∧ ∀ r H, RelD K mg r H d v :=
  let ⟨_, h1, h2⟩ := c.h
  xCon_ok h1 h2 (c.x i h)
/-- the rule for a def, what a body needs told -/
theorem okD2 {P : Program} {w : World} {K : PySem.W.Frag} {mg : Mg} {base : Heap} {x qual : Str} {params : Arguments} {bd : List Stmt} {scope : Scope} {dvs : List V} {kws : List (Str × V)} {f : Addr} {fd : FuncData} {N ps : List Str} {k n NN : Nat} {m : MS}
    (F : FunD K x qual params bd scope dvs kws f fd) (S : FnScope N ps scope) (hn : ps.length = n) (hN : N.length = NN)
    (hb : ∀ (cdv : Value) (A : Around) (outer : List Env) (s : Shared) (H : Hp) (E : XK), Takes (cxOf (L2.CX P w) P w K mg base N qual scope f cdv A outer s H E) (fun cls d _ H' => E cls d H') →
      PassesOwn (model P w) (cxOf (L2.CX P w) P w K mg base N qual scope f cdv A outer s H E).A (cxOf (L2.CX P w) P w K mg base N qual scope f cdv A outer s H E).env (cxOf (L2.CX P w) P w K mg base N qual scope f cdv A outer s H E).xe →
      CallOk (cxOf (L2.CX P w) P w K mg base N qual scope f cdv A outer s H E) (Cx.cn (cxOf (L2.CX P w) P w K mg base N qual scope f cdv A outer s H E) (fun cls d _ H' => E cls d H')) k →
      PSs (cxOf (L2.CX P w) P w K mg base N qual scope f cdv A outer s H E) bd (tS (Cx.cn (cxOf (L2.CX P w) P w K mg base N qual scope f cdv A outer s H E) (fun cls d _ H' => E cls d H')) m)) :
    FnG P w K mg base (k + 1) f fd ps (spOf K mg (body n NN m)) := okD F S hn hN fun cdv A outer s H E hr hg => hb cdv A outer s H E (takes_of rfl rfl rfl rfl) (passes_of rfl) ⟨takes_of rfl rfl rfl rfl, hr, hg, rfl, rfl⟩
end Lw

namespace Lw
open PySem PySem.Spec PyProof.Rows L2

/-! ### unfolding by equations (not by definition: the kernel must not walk the program) -/
section
variable {md : MEnds} {sd : Sg} {S : Sto} {q : QD} {x : QX} {a b m o e : ME} {p r : MS} {t ta tb : MT} {u : Spec} {ml : MA} {f f' : MOp} {d dv : D} {ds dd : List D} {k : Sg → Sto → Prop} {g : MG} {gs : MGs} {i j n : Nat} {cn fn mt T : Str} {cs : List Str}
theorem e_mNext : mNext md sd S = md.nx sd S := Eq.trans rfl rfl
theorem e_mSeq : mSeq p r md sd S = p { md with nx := r md } sd S := Eq.trans rfl rfl
theorem e_mExpr : mExpr m md sd S = m sd S (fun _ S1 => md.nx sd S1) (fun e S1 => md.ex e sd S1) := Eq.trans rfl rfl
theorem e_mRet : mRet m md sd S = m sd S md.rt (fun e S1 => md.ex e sd S1) := Eq.trans rfl rfl
theorem e_mRetN : mRetN md sd S = md.rt .non S := Eq.trans rfl rfl
theorem e_mIfS : mIfS t p r md sd S = t sd S (fun k S1 => if k = true then p md sd S1 else r md sd S1) (fun e S1 => md.ex e sd S1) := Eq.trans rfl rfl
theorem e_mBreak : mBreak md sd S = md.bk sd S := Eq.trans rfl rfl
theorem e_mCont : mCont md sd S = md.ct sd S := Eq.trans rfl rfl
theorem e_mAsg : mAsg m g md sd S = m sd S (fun d S1 => g d sd S1 md.nx) (fun e S1 => md.ex e sd S1) := Eq.trans rfl rfl
theorem e_mPar : mPar i j a b md sd S = a sd S (fun d S1 => b sd S1 (fun e S2 => md.nx ((sd.set i (some d)).set j (some e)) S2) (fun e S1 => md.ex e sd S1)) (fun e S1 => md.ex e sd S1) := Eq.trans rfl rfl
theorem e_gmName : gmName i d sd S k = k (sd.set i (some d)) S := Eq.trans rfl rfl
theorem e_gmNil : gmNil [] sd S k = k sd S := Eq.trans rfl rfl
theorem e_gmCons : gmCons g gs (d :: ds) sd S k = g d sd S (fun sd1 S1 => gs ds sd1 S1 k) := Eq.trans rfl rfl
theorem e_gmTup : gmTup n gs (.tup ds) sd S k = (ds.length = n ∧ gs ds sd S k) := Eq.trans rfl rfl
theorem e_gmSub : gmSub o m d sd S k = o sd S (fun dx S1 => m sd S1 (fun di S2 => match dx, di with
  | .ref n, .int j => (match lstO S2 n with
    | some ds => (match ixN ds.length j with
      | some p => k sd (S2.set n (.lst (ds.set p d)))
      | none => False)
    | none => False)
  | _, _ => False) noQ) noQ := Eq.trans rfl rfl
theorem e_mVar : mVar i sd S q x = (match sd[i]? with
  | some (some d) => q d S
  | _ => False) := Eq.trans rfl rfl
theorem e_mC : mC d sd S q x = q d S := Eq.trans rfl rfl
theorem e_mOp : mOp f a b sd S q x = a sd S (fun d S1 => b sd S1 (fun e S2 => f d e S2 q) x) x := Eq.trans rfl rfl
theorem e_mtB {Q : Bool → Sto → Prop} : mtB m sd S Q x = m sd S (fun d S1 => match d with
  | .bl b => Q b S1
  | _ => False) x := Eq.trans rfl rfl
theorem e_mtT {Q : Bool → Sto → Prop} : mtT m sd S Q x = m sd S (fun d S1 => match truD S1 d with
  | some b => Q b S1
  | none => False) x := Eq.trans rfl rfl
theorem e_mtNot {Q : Bool → Sto → Prop} : mtNot t sd S Q x = t sd S (fun k S1 => Q (!k) S1) x := Eq.trans rfl rfl
theorem e_mtAnd {Q : Bool → Sto → Prop} : mtAnd ta tb sd S Q x = ta sd S (fun k S1 => if k = true then tb sd S1 Q x else Q false S1) x := Eq.trans rfl rfl
theorem e_mtOr {Q : Bool → Sto → Prop} : mtOr ta tb sd S Q x = ta sd S (fun k S1 => if k = true then Q true S1 else tb sd S1 Q x) x := Eq.trans rfl rfl
theorem e_mAnd : mAnd a b sd S q x = a sd S (fun d S1 => match d with
  | .bl k => if k = true then b sd S1 q x else q (.bl false) S1
  | _ => False) x := Eq.trans rfl rfl
theorem e_mOr : mOr a b sd S q x = a sd S (fun d S1 => match d with
  | .bl k => if k = true then q (.bl true) S1 else b sd S1 q x
  | _ => False) x := Eq.trans rfl rfl
theorem e_mAndT : mAndT a b sd S q x = a sd S (fun d S1 => match truD S1 d with
  | some k => if k = true then b sd S1 q x else q d S1
  | none => False) x := Eq.trans rfl rfl
theorem e_mOrT : mOrT a b sd S q x = a sd S (fun d S1 => match truD S1 d with
  | some k => if k = true then q d S1 else b sd S1 q x
  | none => False) x := Eq.trans rfl rfl
theorem e_mIf : mIf t a b sd S q x = t sd S (fun k S1 => if k = true then a sd S1 q x else b sd S1 q x) x := Eq.trans rfl rfl
theorem e_mNotB : mNotB t sd S q x = t sd S (fun k S1 => q (.bl (!k)) S1) x := Eq.trans rfl rfl
theorem e_mChain : mChain f f' a b e sd S q x = a sd S (fun d1 S1 => b sd S1 (fun d2 S2 => f d1 d2 S2 (fun d3 S3 => match d3 with
  | .bl k => if k = true then e sd S3 (fun d4 S4 => f' d2 d4 S4 q) x else q (.bl false) S3
  | _ => False)) x) x := Eq.trans rfl rfl
theorem e_maNil {Q : List D → Sto → Prop} : maNil sd S Q x = Q [] S := Eq.trans rfl rfl
theorem e_maCons {Q : List D → Sto → Prop} : maCons a ml sd S Q x = a sd S (fun d S1 => ml sd S1 (fun ds S2 => Q (d :: ds) S2) x) x := Eq.trans rfl rfl
theorem e_mTup : mTup ml sd S q x = ml sd S (fun ds S1 => ds.length ≤ sizeLine ∧ q (.tup ds) S1) x := Eq.trans rfl rfl
theorem e_mLst : mLst ml sd S q x = ml sd S (fun ds S1 => ds.length ≤ sizeLine ∧ q (.ref S1.length) (S1 ++ [.lst ds])) x := Eq.trans rfl rfl
theorem e_mCall : mCall u dd ml sd S q x = ml sd S (fun ds S1 => u (ds ++ dd) S1 q x) x := Eq.trans rfl rfl
theorem e_mFld : mFld cn fn o sd S q x = o sd S (fun d S1 => isIns cn d S1 fun fs => match fs.lookup fn with
  | some v => q v S1
  | none => False) x := Eq.trans rfl rfl
theorem e_mProp : mProp cn u o sd S q x = o sd S (fun d S1 => isIns cn d S1 fun _ => u [d] S1 q (fun _ _ => False)) x := Eq.trans rfl rfl
theorem e_mMeth : mMeth cn mt u dd o ml sd S q x = o sd S (fun d S1 => isIns cn d S1 fun fs => fs.lookup mt = none ∧ ml sd S1 (fun ds S2 => u (d :: (ds ++ dd)) S2 q x) x) x := Eq.trans rfl rfl
theorem e_mMake : mMake cn u dd ml sd S q x = ml sd S (fun ds S1 => u (.ref S1.length :: (ds ++ dd)) (S1 ++ [.ins cn []]) (fun d S2 => d = .non ∧ q (.ref S1.length) S2) x) x := Eq.trans rfl rfl
theorem e_mSetF : mSetF cn fn o e md sd S = e sd S (fun v S1 => o sd S1 (fun d S2 => match d with
  | .ref i => (match S2[i]? with
    | some (.ins c' fs) => c' = cn ∧ fs.length < 1000 ∧ md.nx sd (S2.set i (.ins cn (putD fn v fs)))
    | _ => False)
  | _ => False) (fun e S1 => md.ex e sd S1)) (fun e S1 => md.ex e sd S1) := Eq.trans rfl rfl
theorem e_mUnO : mUnO cn u m sd S q x = m sd S (fun d S1 => isIns cn d S1 fun _ => u [d] S1 q x) x := Eq.trans rfl rfl
theorem e_mBinO : mBinO cn u a b sd S q x = a sd S (fun d S1 => b sd S1 (fun e S2 => isIns cn d S2 fun _ => okR cn e S2 ∧ u [d, e] S2 q x) x) x := Eq.trans rfl rfl
theorem e_mCallO : mCallO cn u o ml sd S q x = o sd S (fun d S1 => isIns cn d S1 fun _ => ml sd S1 (fun ds S2 => isIns cn d S2 fun _ => u (d :: ds) S2 q x) x) x := Eq.trans rfl rfl
theorem e_mCMeth : mCMeth cn u ml sd S q x = ml sd S (fun ds S1 => u (.nm cn :: ds) S1 q x) x := Eq.trans rfl rfl
theorem e_mRaise {names : List Str} : mRaise cn names ml md sd S = ml sd S (fun ds S1 => ds.length = names.length ∧ md.ex ⟨cn, (names.zip ds).reverse⟩ sd S1) (fun e S1 => md.ex e sd S1) := Eq.trans rfl rfl
theorem e_mTry {ks : List Cls} : mTry p ks md sd S = p { md with ex := tryH md ks } sd S := Eq.trans rfl rfl
theorem e_mFn {h : MFn} : mFn h ml sd S q x = ml sd S (fun ds S1 => h ds S1 q) x := Eq.trans rfl rfl
theorem e_mNeg : mNeg m sd S q x = m sd S (fun d S1 => match d with
  | .int i => q (.int (-i)) S1
  | _ => False) x := Eq.trans rfl rfl
theorem e_mIsiB {T : String} : mIsiB T cs m sd S q x = m sd S (fun d S1 => match tyD S1 d with
  | some (.b s) => q (.bl (isB T s)) S1
  | some (.o k) => k ∈ cs ∧ q (.bl false) S1
  | none => False) x := Eq.trans rfl rfl
theorem e_mIsiO : mIsiO cn cs m sd S q x = m sd S (fun d S1 => match tyD S1 d with
  | some (.b s) => q (.bl false) S1
  | some (.o k) => k ∈ cs ∧ q (.bl (k == cn)) S1
  | none => False) x := Eq.trans rfl rfl
theorem e_mFor {mi : MI} : mFor mi g p md sd S = mi sd S (fun it S1 => forL it.ok g p md it.items sd S1) (fun e S1 => md.ex e sd S1) := Eq.trans rfl rfl
theorem e_miRange1 {Q : Itm → Sto → Prop} : miRange1 ml sd S Q x = ml sd S (fun ds S1 => match ds with
  | [.int j] => (-(2 ^ 62) ≤ j ∧ j < 2 ^ 62) ∧ Q ⟨rangeD 0 j.toNat, fun _ => True⟩ S1
  | _ => False) x := Eq.trans rfl rfl
theorem e_miRange2 {Q : Itm → Sto → Prop} : miRange2 ml sd S Q x = ml sd S (fun ds S1 => match ds with
  | [.int i, .int j] => (-(2 ^ 62) ≤ i ∧ i < 2 ^ 62 ∧ -(2 ^ 62) ≤ j ∧ j < 2 ^ 62) ∧ Q ⟨rangeD i (j - i).toNat, fun _ => True⟩ S1
  | _ => False) x := Eq.trans rfl rfl
theorem e_miTup {Q : Itm → Sto → Prop} : miTup m sd S Q x = m sd S (fun d S1 => match d with
  | .tup ds => Q ⟨ds, fun _ => True⟩ S1
  | _ => False) x := Eq.trans rfl rfl
theorem e_miLst {Q : Itm → Sto → Prop} : miLst m sd S Q x = m sd S (fun d S1 => match d with
  | .ref n => (match S1[n]? with
    | some (.lst ds) => Q ⟨ds, fun S2 => S2[n]? = some (.lst ds)⟩ S1
    | some (.frz ds) => Q ⟨ds, fun S2 => S2[n]? = some (.frz ds)⟩ S1
    | _ => False)
  | _ => False) x := Eq.trans rfl rfl
theorem e_body {N : Nat} : body n N p ds S q x = (ds.length = n ∧ p { nx := fun _ S' => q .non S', rt := q, bk := fun _ _ => False, ct := fun _ _ => False, ex := fun e _ S' => x e S' } (ds.map some ++ List.replicate (N - ds.length) none) S) := Eq.trans rfl rfl
/-! by values -/
theorem e_addII {i j : Int} : mAdd (.int i) (.int j) S q = q (.int (i + j)) S := Eq.trans rfl rfl
theorem e_addIB {i : Int} {k : Bool} : mAdd (.int i) (.bl k) S q = q (.int (i + b2i k)) S := Eq.trans rfl rfl
theorem e_addSS {i j : Str} : mAdd (.str i) (.str j) S q = (i.length + j.length ≤ sizeLine ∧ q (.str (i ++ j)) S) := Eq.trans rfl rfl
theorem e_addTT {i j : List D} : mAdd (.tup i) (.tup j) S q = (i.length + j.length ≤ sizeLine ∧ q (.tup (i ++ j)) S) := Eq.trans rfl rfl
theorem e_addRR {i j : Nat} : mAdd (.ref i) (.ref j) S q = (match lstO S i, lstO S j with
    | some a, some b => a.length + b.length ≤ sizeLine ∧ q (.ref S.length) (S ++ [.lst (a ++ b)])
    | _, _ => False) := Eq.trans rfl rfl
theorem e_subII {i j : Int} : mSub (.int i) (.int j) S q = q (.int (i - j)) S := Eq.trans rfl rfl
theorem e_mulII {i j : Int} : mMul (.int i) (.int j) S q = ((CMul i j ∨ CMulW i j) ∧ q (.int (i * j)) S) := Eq.trans rfl rfl
theorem e_fdivII {i j : Int} : mFdiv (.int i) (.int j) S q = ((0 < j ∧ j.natAbs.log2 < 9000) ∧ q (.int (i / j)) S) := Eq.trans rfl rfl
theorem e_modII {i j : Int} : mMod (.int i) (.int j) S q = (0 < j ∧ q (.int (i % j)) S) := Eq.trans rfl rfl
theorem e_powII {i j : Int} : mPow (.int i) (.int j) S q = (CPow i j ∧ q (.int (i ^ j.toNat)) S) := Eq.trans rfl rfl
theorem e_ltII {i j : Int} : mLt (.int i) (.int j) S q = q (.bl (decide (i < j))) S := Eq.trans rfl rfl
theorem e_leII {i j : Int} : mLe (.int i) (.int j) S q = q (.bl (decide (i ≤ j))) S := Eq.trans rfl rfl
theorem e_gtII {i j : Int} : mGt (.int i) (.int j) S q = q (.bl (decide (j < i))) S := Eq.trans rfl rfl
theorem e_geII {i j : Int} : mGe (.int i) (.int j) S q = q (.bl (decide (j ≤ i))) S := Eq.trans rfl rfl
theorem e_is : mIs d .non S q = q (.bl (isNonD d)) S := Eq.trans rfl rfl
theorem e_isNot : mIsNot d .non S q = q (.bl (!isNonD d)) S := Eq.trans rfl rfl
theorem e_ixT {i : Int} : mIx (.tup ds) (.int i) S q = (match atI ds i with
    | some x => q x S
    | none => False) := Eq.trans rfl rfl
theorem e_ixR {i : Int} : mIx (.ref n) (.int i) S q = (match seqO S n with
    | some ds => (match atI ds i with
      | some x => q x S
      | none => False)
    | none => False) := Eq.trans rfl rfl
theorem e_ixS {z : Str} {i : Int} : mIx (.str z) (.int i) S q = (z.length ≤ sizeLine ∧ (match atI z.cps.toList i with
    | some k => q (.str ⟨#[k]⟩) S
    | none => False)) := Eq.trans rfl rfl
theorem e_ixD {tab : List (Str × D)} {z : Str} : mIxT cn tab (.nm fn) (.str z) S q = (fn = cn ∧ (match tab.lookup z with
    | some v => q v S
    | none => False)) := Eq.trans rfl rfl
theorem e_inD {tab : List (Str × D)} {z : Str} : mInT cn tab (.str z) (.nm fn) S q = (fn = cn ∧ q (.bl (tab.lookup z).isSome) S) := Eq.trans rfl rfl
theorem e_isIns {K : List (Str × D) → Prop} : isIns cn (.ref n) S K = (match S[n]? with
    | some (.ins c' fs) => c' = cn ∧ K fs
    | _ => False) := Eq.trans rfl rfl
theorem e_fLenS {z : Str} : fLen [.str z] S q = (z.length ≤ sizeLine ∧ q (.int z.length) S) := Eq.trans rfl rfl
theorem e_fLenT : fLen [.tup ds] S q = q (.int ds.length) S := Eq.trans rfl rfl
theorem e_fLenR : fLen [.ref n] S q = (match seqO S n with
    | some xs => q (.int xs.length) S
    | none => False) := Eq.trans rfl rfl
theorem e_fMax2 {i j : Int} : fMax2 [.int i, .int j] S q = q (.int (if j > i then j else i)) S := Eq.trans rfl rfl
theorem e_fMin2 {i j : Int} : fMin2 [.int i, .int j] S q = q (.int (if j < i then j else i)) S := Eq.trans rfl rfl
theorem e_fAbs {i : Int} : fAbs [.int i] S q = q (.int (if i < 0 then -i else i)) S := Eq.trans rfl rfl
theorem e_fIntI {i : Int} : fInt [.int i] S q = q (.int i) S := Eq.trans rfl rfl
theorem e_fIntB {k : Bool} : fInt [.bl k] S q = q (.int (if k then 1 else 0)) S := Eq.trans rfl rfl
theorem e_fBoolI {i : Int} : fBool [.int i] S q = q (.bl (i != 0)) S := Eq.trans rfl rfl
theorem e_fBoolB {k : Bool} : fBool [.bl k] S q = q (.bl k) S := Eq.trans rfl rfl
theorem e_mExcF {xc : Exc} {ad : Addr} : mExcF xc ad i fn sd S q x = (match sd[i]? with
  | some (some (.adr b)) => b = ad ∧ (match xc.fs.lookup fn with
    | some d => q d S
    | none => False)
  | _ => False) := Eq.trans rfl rfl
theorem e_tryNil {xc : Exc} : tryH md [] xc sd S = md.ex xc sd S := Eq.trans rfl rfl
theorem e_tryCons {xc : Exc} {kc : Cls} {ks : List Cls} : tryH md (kc :: ks) xc sd S = (match kc.tab.lookup xc.c with
    | some true => ∀ a : Addr, kc.suite xc a { md with nx := fun sd' S' => md.nx (outS kc.slot sd') S', bk := fun sd' S' => md.bk (outS kc.slot sd') S', ct := fun sd' S' => md.ct (outS kc.slot sd') S', ex := fun _ _ _ => False } (inS kc.slot a sd) S
    | some false => tryH md ks xc sd S
    | none => False) := Eq.trans rfl rfl
end
end Lw

namespace Lw
open PySem PySem.Spec PyProof.Rows L2

/-! ### == and != by an own __eq__ -/
section
variable {prog : Program} {w : World} {A : Around} {E : Value → Shared → Prop} {st : Shared} {K : PySem.W.Frag} {ix ca lv fa : Addr} {hb0 : Heap} {mm : Str → Option Value} {oi : Obj} {oe : Option Obj} {rt tr : Value}
/-- what __eq__ told, turned round -/
def NeB (Q : Value → Shared → Prop) (v : Value) (s' : Shared) : Prop := ∃ b, v = .bool b ∧ Q (.bool (!b)) s'
open PySem.W PySem.Calls in
/-- x != y where the class has an own __eq__ and object's __ne__ -/
theorem ne_own {Q : Value → Shared → Prop} (room : A.units + 1 < cLine) (Fm : Fr hb0 lv st.heap mm) (K0 : K.In hb0) (J : InstAt st.heap ix oi ca oe) (hty : Looks (model prog w) st.heap (typeOf rt) tr) (nf : notFirst K ca tr = true)
    (hne : findIn K (.ref ca) "__ne__" = some (some (.builtin "object.__ne__"))) (hob : subIn K (.ref ca) (.type "object") = some true) (heq : findIn K (.ref ca) "__eq__" = some (some (.ref fa))) (hfn : isFn K (.ref fa) = true)
    (go : wpAny (model prog w) A.in1 (call (.ref fa) [.ref ix, rt]) (NeB Q) E st) : wpAny (model prog w) A (richCompare .NotEq (.ref ix) rt) Q E st := by
  have KI := K0.keeps Fm.keep
  have ty : Looks (model prog w) st.heap (typeOf (.ref ix)) (.ref ca) := J.type
  have sub : Looks (model prog w) st.heap (isInstance (.ref ix) (.type "object")) true := ty.andThen (looks_subIn KI hob)
  have inner : codeAny (model prog w) A (.call (.builtin "object.__ne__") ⟨[.ref ix, rt], []⟩) (fun r s' => match r with | .ok (.ret v) => (∃ b, v = .bool b) ∧ Q v s' | .ok _ => False | .error e => E e s') st := by
    refine codeAny_call_builtin PySem.F.cmp_object.ne.plain PySem.F.cmpEntry_ne (@check_slot (model prog w) _ _ st "object.__ne__" "object" "__ne__" (.ref ix) [rt] [] _ PySem.F.cmpKind_ne PySem.F.cmpSplit_ne sub (PySem.F.cmpArgs_ne (.ref ix) rt) ?_)
    unfold Builtin.«object.__ne__»
    refine wpAny_bind (wpAny_pure ?_)
    refine wpAny_bind (wpAny_cRoomFor room ?_)
    refine wpAny_bind (ifBound_K KI J heq hfn (wpAny_mono go (fun v s' hv => ?_) fun _ _ z => z))
    obtain ⟨b, rfl, hq⟩ := hv
    exact wpAny_bind (wpAny_truthy_bool (wpAny_pure ⟨⟨_, rfl⟩, hq⟩))
  have one : wpAny (model prog w) A (tryCompare (.ref ix) "__ne__" rt) (fun r s' => ∃ v, r = some v ∧ Q v s') E st := by
    unfold tryCompare callSpecialIfBound? bindSpecialIfBound?
    refine wpAny_bind (wpAny_holding (wpAny_bind (wpAny_bind (wpAny_bind (ty.here ((looks_findIn KI hne).here ?_))))))
    refine wpAny_bind (wpAny_askSetting (wpAny_ite ?_))
    have fin : wpAny (model prog w) A (call (.builtin "object.__ne__") ([.ref ix] ++ [rt]) >>= fun v => pure (some v)) (fun r s' => wpAny (model prog w) A (match r with | some Value.notImplemented | none => pure none | some v => pure (some v)) (fun r s' => ∃ v, r = some v ∧ Q v s') E s') E st :=
      wpAny_bind (wpAny_mono (wpAny_call inner) (fun v s' hv => by
        obtain ⟨⟨b, rfl⟩, hq⟩ := hv
        exact wpAny_pure (wpAny_pure ⟨_, rfl, hq⟩)) fun _ _ z => z)
    split
    · exact wpAny_bind (wpAny_pure (wpAny_pure (by exact fin)))
    · exact wpAny_tryCatch (wpAny_bind (wpAny_pure (wpAny_pure (by exact fin))))
  unfold richCompare
  simp only [oneThing_ref]
  refine wpAny_holding (wpAny_bind (wpAny_cRoomFor (by omega) ?_))
  refine wpAny_bind (ty.here (wpAny_bind (hty.here ?_)))
  split
  · rename_i dif
    have lower : subIn K tr (.ref ca) = some false := by
      rcases Bool.or_eq_true_iff.mp nf with z | z
      · rw [beq_iff_eq.mp z] at dif; simp at dif
      · exact beq_iff_eq.mp z
    refine wpAny_bind ((looks_subIn KI lower).here ?_)
    simp only [Bool.false_eq_true, if_false]
    refine wpAny_bind (wpAny_mono one (fun r s' back => ?_) fun _ _ z => z)
    obtain ⟨v, rfl, done⟩ := back
    exact wpAny_pure done
  · refine wpAny_bind (wpAny_pure ?_)
    simp only [Bool.false_eq_true, if_false]
    refine wpAny_bind (wpAny_mono one (fun r s' back => ?_) fun _ _ z => z)
    obtain ⟨v, rfl, done⟩ := back
    exact wpAny_pure done
end
end Lw

namespace Lw
open PySem PySem.Spec PyProof.Rows L2

/-! ### == and != on own instances, any value on the right -/
def okE (cs : List Str) (e : D) (S : Sto) : Prop := match tyD S e with
  | some (.b _) => True
  | some (.o k) => k ∈ cs
  | none => False
def mEqO (cn : Str) (cs : List Str) (u : Spec) (a b : ME) : ME := fun sd S q x => a sd S (fun d S1 => b sd S1 (fun e S2 => isIns cn d S2 fun _ => okE cs e S2 ∧ u [d, e] S2 q x) x) x
def mNeO (cn : Str) (cs : List Str) (u : Spec) (a b : ME) : ME := fun sd S q x => a sd S (fun d S1 => b sd S1 (fun e S2 => isIns cn d S2 fun _ => okE cs e S2 ∧ u [d, e] S2 (fun r S3 => match r with
  | .bl k => q (.bl (!k)) S3
  | _ => False) noQ) x) x
structure EqF (K : PySem.W.Frag) (mg : Mg) (C : Addr) (cs : List Str) : Prop where
  bt : ∀ T ∈ kinds, PySem.W.notFirst K C (.type T) = true
  ow : ∀ k ∈ cs, ∀ Ck, mg k = some (.ref Ck) → PySem.W.notFirst K C (.ref Ck) = true
structure NeF (K : PySem.W.Frag) (C : Addr) : Prop where
  ne : PySem.W.findIn K (.ref C) "__ne__" = some (some (.builtin "object.__ne__"))
  ob : PySem.W.subIn K (.ref C) (.type "object") = some true
def xEqF (cs : List Str) (y : Str) : Xf := fun K => (kinds.all fun T => PySem.W.notFirst K (He.ga K y) (.type T)) && cs.all fun k => PySem.W.notFirst K (He.ga K y) (.ref (He.ga K k))
theorem xEqF_ok {K : PySem.W.Frag} {mg : Mg} {cs : List Str} {y : Str} (h : xEqF cs y K = true) (hg : ∀ k ∈ cs, mg k = some (.ref (He.ga K k))) : EqF K mg (He.ga K y) cs := by
  obtain ⟨h1, h2⟩ := He.ba h
  exact ⟨fun T hT => List.all_eq_true.mp h1 T hT, fun k hk C hC => by
    rw [hg k hk] at hC; cases hC
    exact List.all_eq_true.mp h2 k hk⟩
def xNeF (y : Str) : Xf := fun K => He.eqO (PySem.W.findIn K (.ref (He.ga K y)) "__ne__") (some (some (.builtin "object.__ne__"))) && decide (PySem.W.subIn K (.ref (He.ga K y)) (.type "object") = some true)
theorem xNeF_ok {K : PySem.W.Frag} {y : Str} (h : xNeF y K = true) : NeF K (He.ga K y) := by
  obtain ⟨h1, h2⟩ := He.ba h
  exact ⟨He.eqO_ok h1, of_decide_eq_true h2⟩
section
variable {X : Cx} {c : Cn} {m ma mb : ME} {a b e o : Expr} {es : List Expr} {mr : MA} {p pos : Pos} {k : Nat} {f C : Addr} {u : Spec} {cn : Str} {cs : List Str}
/-- the right side's type may not come first -/
theorem right_ok {pins : List (Addr × Obj)} {σ : L2.St} {H : Hp} {s : Shared} {r : List Addr} {S : Sto} {e : D} {wx : V} {w : Value} (hK : c.K = X.K) (hm : c.mg = X.mg) (O : Owns X.K X.mg cs) (E : EqF X.K X.mg C cs) (I : Inv X pins σ H s) (ry : RelV wx w) (sm : c.Sm r H S) (rd : c.Rd r H e wx) (ok : okE cs e S) :
    ∃ t, PySem.W.Looks (model X.prog X.w) s.heap (typeOf w) t ∧ PySem.W.notFirst X.K C t = true := by
  unfold okE at ok
  cases et : tyD S e with
  | none => rw [et] at ok; exact ok.elim
  | some kd =>
    rw [et] at ok
    cases kd with
    | b T =>
      have tx := tyB_of sm rd et
      rw [hK] at tx
      obtain ⟨P, Z, pp, _⟩ := kit_of I ry tx
      exact ⟨_, Z.ty _ _ I.kIn pp, E.bt T (tyB_kind et)⟩
    | o k' =>
      obtain ⟨Ck, hC, oc⟩ := O.at_ k' ok
      have tx := tyO_of sm rd et (by rw [hm]; exact hC) (by rw [hK]; exact oc)
      rw [hK] at tx
      obtain ⟨P, Z, pp, _⟩ := kit_of I ry tx
      exact ⟨_, Z.ty _ _ I.kIn pp, E.ow k' ok Ck hC⟩
/-- the callee one room deeper, with no way out but its value -/
theorem fn_in1 (F : Fn X k f u []) (hc : CallOk X c (k + 1)) {pins : List (Addr × Obj)} {σ : L2.St} {H : Hp} {s : Shared} {Q : VK} {us : List Value} {vs : List V} {r : List Addr} {S : Sto} {dl : List D} {q : QD} (I : Inv X pins σ H s) (rv : Vals vs us)
    (sm : c.Sm r H S) (rd : c.Rs r H dl vs) (h : u dl S q noQ) (g : GoV c r H q Q) : wpAny (model X.prog X.w) X.A.in1 (call (.ref f) us) (EP X pins σ Q) X.xe s := by
  obtain ⟨fd, ps, dvs, ds, FF, hb, hd, hdd⟩ := F.ex
  have h' : u (dl ++ []) S q noQ := by rw [List.append_nil]; exact h
  have sp := call_of (c := ⟨c.K, c.mg, c.P, c.st, fun _ _ _ _ => False⟩) (s := σ) hc.K hc.mg hdd sm rd h' g (fun e S' r' H' cls dd h _ _ _ => h.elim)
  have r2 : Vals (vs ++ dvs) (us ++ ds) := rv.append hd
  have hl : (us ++ ds).length = ps.length := r2.length.symm.trans (FF.len _ _ _ _ sp)
  refine wpAny_call (codeAny_mono (FF.run X.A.in1 X.stack s H ⟨us, []⟩ _ _ Q (fun _ _ _ => False) hc.room.in1 hc.gd I.env0.in1 (hb s us I.kIn hl) r2 sp) fun rs s' hq => ?_)
  cases rs with
  | error er =>
    obtain ⟨_, _, _, _, _, _, _, _, _, _, _, _, z⟩ := hq
    exact z.elim
  | ok fl =>
    cases fl with
    | ret uv => exact I.after hq
    | next => exact hq.elim
    | brk => exact hq.elim
    | cont => exact hq.elim
/-- both sides walked -/
theorem two_run {pins : List (Addr × Obj)} {σ : L2.St} {H : Hp} {s : Shared} {Q : VK} {op : Value → Value → Sem Value} {K3 : D → D → Sto → QD → QX → Prop} (ho : PE X a (tE c ma)) (hb : PE X b (tE c mb)) (I : Inv X pins σ H s)
    (h : tE c (fun sd S q x => ma sd S (fun d S1 => mb sd S1 (fun e S2 => isIns cn d S2 fun _ => okE cs e S2 ∧ K3 d e S2 q x) x) x) σ H Q) (hmg : c.mg = X.mg) (hC : X.mg cn = some (.ref C))
    (go : ∀ s1 x (od : Obj × Obj) w wx H1 r S d e q xx, Inv X pins σ H1 s1 → PySem.W.InstAt s1.heap x od.1 C (some od.2) → RelV wx w → c.Sm r H1 S → c.Rd r H1 d (.ref x) → c.Rd r H1 e wx → okE cs e S → K3 d e S q xx → GoV c r H1 q Q → GoX c r H1 σ xx → wpAny (model X.prog X.w) X.A (op (.ref x) w) (EP X pins σ Q) X.xe s1) :
    wpAny (model X.prog X.w) X.A (eval a X.env) (fun v s₁ => wpAny (model X.prog X.w) X.A (eval b X.env) (fun u s₂ => wpAny (model X.prog X.w) X.A (op v u) (EP X pins σ Q) X.xe s₂) X.xe s₁) X.xe s := by
  obtain ⟨r, S, sd, q, xx, aa, hm, g, gx⟩ := h
  refine thn (ho.run pins s σ H (fun v H1 => ∃ r1 S1 d, At c r1 S1 sd σ H1 ∧ c.Rd r1 H1 d v ∧ Stp r H r1 H1 ∧ mb sd S1 (fun e S2 => isIns cn d S2 fun _ => okE cs e S2 ∧ K3 d e S2 q xx) xx) I ⟨r, S, sd, _, xx, aa, hm, fun d S1 r1 v H1 h1 t1 sm1 rd1 => ⟨r1, S1, d, aa.step t1 sm1, rd1, t1, h1⟩, gx⟩) fun v s1 ⟨vx, H1, I1, rx, r1, S1, d, a1, rd1, t1, h1⟩ => ?_
  refine thn (hb.run pins s1 σ H1 (fun w H2 => ∃ r2 S2 e, c.Sm r2 H2 S2 ∧ c.Rd r2 H2 e w ∧ Stp r1 H1 r2 H2 ∧ isIns cn d S2 fun _ => okE cs e S2 ∧ K3 d e S2 q xx) I1 ⟨r1, S1, sd, _, xx, a1, h1, fun e S2 r2 w H2 h2 t2 sm2 rd2 => ⟨r2, S2, e, sm2, rd2, t2, h2⟩, gx.step t1⟩) fun w s2 ⟨wx, H2, I2, ry, r2, S2, e, sm2, rd2, t2, h2⟩ => ?_
  obtain ⟨i, fs, x, dx, vs, rfl, rfl, _, _, e1, _, _, ok, hu⟩ := isIns_of (C := C) h2 sm2 (rd1.mono t2) (by rw [hmg]; exact hC)
  obtain rfl : v = Value.ref x := rx
  obtain ⟨od, J⟩ := inst_of I2 e1
  have t12 := t1.trans t2
  exact go s2 x ⟨_, od⟩ w wx H2 r2 S2 _ e q xx I2 J ry sm2 (rd1.mono t2) rd2 ok hu (g.step t12) (gx.step t12)
theorem me_eqO (O : OpF X cn "__eq__" C f u k) (Ow : Owns X.K X.mg cs) (E : EqF X.K X.mg C cs) (hc : CallOk X c k) (ha : PE X a (tE c ma)) (hb : PE X b (tE c mb)) : PE X (.Compare a [.Eq] [b] pos) (tE c (mEqO cn cs u ma mb)) := by
  refine ⟨fun pins s σ H Q I h => ?_⟩
  refine wpAny_Compare1 ?_ (nomark _)
  refine two_run (K3 := fun d e S q x => u [d, e] S q x) (op := compareOp .Eq) ha hb I h hc.mg O.mg ?_
  intro s1 x od w wx H1 r S d e q xx I1 J ry sm rd re ok hu g gx
  have hu' : u ([d, e] ++ []) S q xx := hu
  clear hu h
  show wpAny (model X.prog X.w) X.A (richCompare .Eq (.ref x) w) (EP X pins σ Q) X.xe s1
  obtain ⟨mm, fr⟩ := I1.fr
  obtain ⟨t, L, nf⟩ := right_ok hc.K hc.mg Ow E I1 ry sm re ok
  have z : wpAny (model X.prog X.w) X.A (call (.ref f) [.ref x, w]) (EP X pins σ Q) X.xe s1 := fn_run (us := [.ref x, w]) (vs := [.ref x, wx]) (dl := [d, e]) O.F hc I1 (.cons rfl (.cons ry .nil)) sm (.cons rd (.cons re .nil)) hu' g gx
  have z2 : wpAny (model X.prog X.w) X.A (call (.ref f) [.ref x, w]) (PySem.W.CmpBack (EP X pins σ Q)) X.xe s1 := wpAny_mono z (fun v s' h => back_of h) fun _ _ h => h
  exact PySem.W.cmp_K (op := .Eq) hc.u0 fr I1.ok.mod.kin J L nf O.at_ O.fn z2
theorem me_neO (O : OpF X cn "__eq__" C f u k) (Ow : Owns X.K X.mg cs) (E : EqF X.K X.mg C cs) (N : NeF X.K C) (hc : CallOk X c (k + 1)) (ha : PE X a (tE c ma)) (hb : PE X b (tE c mb)) : PE X (.Compare a [.NotEq] [b] pos) (tE c (mNeO cn cs u ma mb)) := by
  refine ⟨fun pins s σ H Q I h => ?_⟩
  refine wpAny_Compare1 ?_ (nomark _)
  refine two_run (K3 := fun d e S q x => u [d, e] S (fun r S3 => match r with
      | .bl k => q (.bl (!k)) S3
      | _ => False) noQ) (op := compareOp .NotEq) ha hb I h hc.mg O.mg ?_
  intro s1 x od w wx H1 r S d e q xx I1 J ry sm rd re ok hu g gx
  have hu' : u [d, e] S (fun r S3 => match r with
      | .bl k => q (.bl (!k)) S3
      | _ => False) noQ := hu
  clear hu h
  show wpAny (model X.prog X.w) X.A (richCompare .NotEq (.ref x) w) (EP X pins σ Q) X.xe s1
  obtain ⟨mm, fr⟩ := I1.fr
  obtain ⟨t, L, nf⟩ := right_ok hc.K hc.mg Ow E I1 ry sm re ok
  have gq : GoV c r H1 (fun r S3 => match r with
      | .bl k => q (.bl (!k)) S3
      | _ => False) (fun v H' => ∃ b, v = .bl b ∧ Q (.bl (!b)) H') := fun d' S' r' v H' hq t' sm' rd' => by
    cases rd' with
    | bl b => exact ⟨b, rfl, g _ S' r' _ H' hq t' sm' (.bl _)⟩
    | _ => exact hq.elim
  have z : wpAny (model X.prog X.w) X.A.in1 (call (.ref f) [.ref x, w]) (EP X pins σ (fun v H' => ∃ b, v = .bl b ∧ Q (.bl (!b)) H')) X.xe s1 := fn_in1 (us := [.ref x, w]) (vs := [.ref x, wx]) (dl := [d, e]) O.F hc I1 (.cons rfl (.cons ry .nil)) sm (.cons rd (.cons re .nil)) hu' gq
  have room : X.A.units + 1 < cLine := by have := hc.room.un; omega
  refine ne_own room fr I1.ok.mod.kin J L nf N.ne N.ob O.at_ O.fn (wpAny_mono z (fun v s' h => ?_) fun _ _ h => h)
  obtain ⟨vv, H', I', rv, b, rfl, q'⟩ := h
  obtain rfl : v = Value.bool b := rv
  exact ⟨b, rfl, .bl (!b), H', I', rfl, q'⟩
end
end Lw

namespace Lw
open PySem PySem.Spec PyProof.Rows L2

/-! ### a place with no way out -/
abbrev Cn.nw (c : Cn) : Cn := ⟨c.K, c.mg, c.P, c.st, fun _ _ _ _ => False⟩
theorem CallOk.nw {X : Cx} {c : Cn} {k : Nat} (h : CallOk X c k) : CallOk X c.nw k := ⟨takes0, h.room, h.gd, h.K, h.mg⟩
/-- within a comprehension -/
theorem CallOk.blk {X : Cx} {c : Cn} {k : Nat} (h : CallOk X c k) (s : Shared) (H : Hp) (scope : Scope) (env : Env) (fp : List Addr) : CallOk (X.blk s H scope env fp) (Cn.blk c) k := ⟨takes0, h.room, h.gd, h.K, h.mg⟩
theorem goX_nw {c : Cn} {r : List Addr} {H : Hp} {s : L2.St} : GoX c.nw r H s noQ := fun _ _ _ _ _ _ h _ _ _ => h.elim
section
variable {X : Cx} {c : Cn} {m ma mb : ME} {a b e o : Expr} {es : List Expr} {mr : MA} {p pos apos cpos : Pos} {k : Nat} {f C : Addr} {u : Spec} {dd : List D} {cn : Str} {cs : List Str}
/-- the callee one room deeper -/
theorem fn_in1X (F : Fn X k f u dd) (hc : CallOk X c (k + 1)) {pins : List (Addr × Obj)} {σ : L2.St} {H : Hp} {s : Shared} {Q : VK} {us : List Value} {vs : List V} {r : List Addr} {S : Sto} {dl : List D} {q : QD} {xx : QX} (I : Inv X pins σ H s) (rv : Vals vs us)
    (sm : c.Sm r H S) (rd : c.Rs r H dl vs) (h : u (dl ++ dd) S q xx) (g : GoV c r H q Q) (gx : GoX c r H σ xx) : wpAny (model X.prog X.w) X.A.in1 (call (.ref f) us) (EP X pins σ Q) X.xe s := by
  obtain ⟨fd, ps, dvs, ds, FF, hb, hd, hdd⟩ := F.ex
  have sp := call_of hc.K hc.mg hdd sm rd h g gx
  have r2 : Vals (vs ++ dvs) (us ++ ds) := rv.append hd
  have hl : (us ++ ds).length = ps.length := r2.length.symm.trans (FF.len _ _ _ _ sp)
  refine wpAny_call (codeAny_mono (FF.run X.A.in1 X.stack s H ⟨us, []⟩ _ _ Q (WE c.W σ) hc.room.in1 hc.gd I.env0.in1 (hb s us I.kIn hl) r2 sp) fun rs s' hq => ?_)
  cases rs with
  | error er => exact passAt hc.tk σ pins H s er s' I hq
  | ok fl =>
    cases fl with
    | ret uv => exact I.after hq
    | next => exact hq.elim
    | brk => exact hq.elim
    | cont => exact hq.elim
theorem fn_in2X (F : Fn X k f u dd) (hc : CallOk X c (k + 2)) {pins : List (Addr × Obj)} {σ : L2.St} {H : Hp} {s : Shared} {Q : VK} {us : List Value} {vs : List V} {r : List Addr} {S : Sto} {dl : List D} {q : QD} {xx : QX} (I : Inv X pins σ H s) (rv : Vals vs us)
    (sm : c.Sm r H S) (rd : c.Rs r H dl vs) (h : u (dl ++ dd) S q xx) (g : GoV c r H q Q) (gx : GoX c r H σ xx) : wpAny (model X.prog X.w) X.A.in1.in1 (call (.ref f) us) (EP X pins σ Q) X.xe s := by
  obtain ⟨fd, ps, dvs, ds, FF, hb, hd, hdd⟩ := F.ex
  have sp := call_of hc.K hc.mg hdd sm rd h g gx
  have r2 : Vals (vs ++ dvs) (us ++ ds) := rv.append hd
  have hl : (us ++ ds).length = ps.length := r2.length.symm.trans (FF.len _ _ _ _ sp)
  refine wpAny_call (codeAny_mono (FF.run X.A.in1.in1 X.stack s H ⟨us, []⟩ _ _ Q (WE c.W σ) hc.room.in1.in1 hc.gd I.env0.in1.in1 (hb s us I.kIn hl) r2 sp) fun rs s' hq => ?_)
  cases rs with
  | error er => exact passAt hc.tk σ pins H s er s' I hq
  | ok fl =>
    cases fl with
    | ret uv => exact I.after hq
    | next => exact hq.elim
    | brk => exact hq.elim
    | cont => exact hq.elim
/-! ### len(o) -/
def fLenO (cn : Str) (u : Spec) : MFn := fun ds S q => match ds with
  | [d] => isIns cn d S fun _ => u [d] S (fun r S3 => match r with
    | .int n => (0 ≤ n ∧ n < 2 ^ 63) ∧ q (.int n) S3
    | _ => False) noQ
  | _ => False
/-- what stands of a built-in function over trees -/
abbrev rFn (c : Cn) (g : MFn) (xs : List V) (H : Hp) (Q : VK) : Prop := ∃ r S ds q, c.Sm r H S ∧ c.Rs r H ds xs ∧ g ds S q ∧ GoV c r H q Q
theorem cm_lenO (O : OpF X cn "__len__" C f u k) (hc : CallOk X c (k + 1)) : CallM X c (.builtin "len") (fLenO cn u) := by
  refine ⟨rFn c (fLenO cn u), fun pins s σ H xs us Q I rv h => ?_, fun _ _ _ h => h⟩
  obtain ⟨r, S, ds, q, sm, rd, h, g⟩ := h
  unfold fLenO at h
  split at h
  · obtain ⟨v, rfl, r1⟩ := rs1 rd
    obtain ⟨i, fs, x, dx, vs, rfl, rfl, _, _, e1, _, _, hu⟩ := isIns_of (C := C) h sm r1 (by rw [hc.mg]; exact O.mg)
    obtain rfl := Vals.ref1 rv
    obtain ⟨od, J⟩ := inst_of I e1
    obtain ⟨mm, fr⟩ := I.fr
    have z : wpAny (model X.prog X.w) X.A.in1 (call (.ref f) [.ref x]) (EP X pins σ (fun v H' => ∃ n : Int, v = .int n ∧ (0 ≤ n ∧ n < 2 ^ 63) ∧ Q (.int n) H')) X.xe s :=
      fn_in1X (us := [.ref x]) (vs := [.ref x]) (dl := [.ref i]) O.F hc.nw I (.cons rfl .nil) sm (.cons r1 .nil) hu (fun d' S' r' v H' hq t' sm' rd' => by
        cases rd' with
        | int n => exact ⟨n, rfl, hq.1, g _ S' r' _ H' hq.2 t' sm' (.int _)⟩
        | _ => exact hq.elim) goX_nw
    refine PySem.W.len_K fr I.ok.mod.kin J O.at_ O.fn (wpAny_mono z (fun v s' h => ?_) fun _ _ h => h)
    obtain ⟨vv, H', I', rv, n, rfl, hb, q'⟩ := h
    obtain ⟨t, rfl⟩ := rv
    exact ⟨hb, .int n, H', I'.tok _, ⟨_, rfl⟩, q'⟩
  · exact h.elim
/-! ### bool(o), the truth of o -/
def fBoolO (cn : Str) (u : Spec) : MFn := fun ds S q => match ds with
  | [d] => isIns cn d S fun _ => u [d] S (fun r S3 => match r with
    | .bl b => q (.bl b) S3
    | _ => False) noQ
  | _ => False
theorem bool_new_own {prog : Program} {w : World} (x : Addr) : MeetsIn prog w (Builtin.«bool.__new__» ⟨[.type "bool", .ref x], []⟩) (fun A R s => wpAny (model prog w) A.in1 (truthy (.ref x)) (fun b s' => R (.ok (.ret (.bool b))) s') (fun e s' => R (.error e) s') s) :=
  .of_wp fun A R s hs => by
    have f1 := F.conv_sub_bool
    obtain ⟨hp, g, d, tk, os⟩ := s
    repeat (any_goals (first | assumption | (with_reducible refine wpAny_bind (wpAny_mono hs (fun b s' h => ?_) fun _ _ h => h)) | wp_step))
    all_goals first | exact ⟨_, rfl, by assumption⟩ | skip
theorem cm_boolO (O : OpF X cn "__bool__" C f u k) (hc : CallOk X c (k + 2)) : CallM X c (.type "bool") (fBoolO cn u) := by
  refine ⟨rFn c (fBoolO cn u), fun pins s σ H xs us Q I rv h => ?_, fun _ _ _ h => h⟩
  obtain ⟨r, S, ds, q, sm, rd, h, g⟩ := h
  unfold fBoolO at h
  split at h
  · obtain ⟨v, rfl, r1⟩ := rs1 rd
    obtain ⟨i, fs, x, dx, vs, rfl, rfl, _, _, e1, _, _, hu⟩ := isIns_of (C := C) h sm r1 (by rw [hc.mg]; exact O.mg)
    obtain rfl := Vals.ref1 rv
    obtain ⟨od, J⟩ := inst_of I e1
    obtain ⟨mm, fr⟩ := I.fr
    have z : wpAny (model X.prog X.w) X.A.in1.in1 (call (.ref f) [.ref x]) (EP X pins σ (fun v H' => ∃ b, v = .bl b ∧ Q (.bl b) H')) X.xe s :=
      fn_in2X (us := [.ref x]) (vs := [.ref x]) (dl := [.ref i]) O.F hc.nw I (.cons rfl .nil) sm (.cons r1 .nil) hu (fun d' S' r' v H' hq t' sm' rd' => by
        cases rd' with
        | bl b => exact ⟨b, rfl, g _ S' r' _ H' hq t' sm' (.bl _)⟩
        | _ => exact hq.elim) goX_nw
    refine callType_newIn F.called_bool F.newNe_bool (F.typeCall_bool_1 _) (F.newCall_bool_1 _) (fun obj => F.args_object_init_2 obj _) F.entry_bool_new (bool_new_own x) ?_
    refine PySem.W.truthy_K fr I.ok.mod.kin J O.at_ O.fn (wpAny_mono z (fun v s' h => ?_) fun _ _ h => h)
    obtain ⟨vv, H', I', rv, b, rfl, q'⟩ := h
    obtain rfl : v = Value.bool b := rv
    exact ⟨rfl, .bl b, H', I', rfl, q'⟩
  · exact h.elim
def mtTO (cn : Str) (u : Spec) (m : ME) : MT := fun sd S q x => m sd S (fun d S1 => isIns cn d S1 fun _ => u [d] S1 (fun r S3 => match r with
    | .bl b => q b S3
    | _ => False) noQ) x
theorem mt_truO (O : OpF X cn "__bool__" C f u k) (hc : CallOk X c k) (ha : PE X a (tE c m)) (he : ∀ whole, isTrue a X.env whole = (do let v ← whole; standAt a.pos; holding [v] (truthy v)) := by intro _; rfl) : PT X a (tT c (mtTO cn u m)) := by
  refine ⟨fun pins s σ H Q I h => ?_⟩
  obtain ⟨r, S, sd, q, xx, aa, hm, g, gx⟩ := h
  refine isTrue_plain (thn (ha.run pins s σ H (fun v H1 => ∃ r1 S1 d, c.Sm r1 H1 S1 ∧ c.Rd r1 H1 d v ∧ Stp r H r1 H1 ∧ isIns cn d S1 fun _ => u [d] S1 (fun r S3 => match r with
    | .bl b => q b S3
    | _ => False) noQ) I ⟨r, S, sd, _, xx, aa, hm, fun d S1 r1 v H1 h1 t1 sm1 rd1 => ⟨r1, S1, d, sm1, rd1, t1, h1⟩, gx⟩) fun v s1 ⟨vx, H1, I1, rx, r1, S1, d, sm, rd, t, h1⟩ => ?_) (he _)
  obtain ⟨i, fs, x, dx, vs, rfl, rfl, _, _, e1, _, _, hu⟩ := isIns_of (C := C) h1 sm rd (by rw [hc.mg]; exact O.mg)
  obtain rfl : v = Value.ref x := rx
  obtain ⟨od, J⟩ := inst_of I1 e1
  obtain ⟨mm, fr⟩ := I1.fr
  have z : wpAny (model X.prog X.w) X.A (call (.ref f) [.ref x]) (EP X pins σ (fun v H' => ∃ b, v = .bl b ∧ Q b H')) X.xe s1 :=
    fn_run (us := [.ref x]) (vs := [.ref x]) (dl := [.ref i]) O.F hc.nw I1 (.cons rfl .nil) sm (.cons rd .nil) hu (fun d' S' r' v H' hq t' sm' rd' => by
      cases rd' with
      | bl b => exact ⟨b, rfl, g _ S' r' H' hq (t.trans t') sm'⟩
      | _ => exact hq.elim) goX_nw
  refine PySem.W.truthy_K fr I1.ok.mod.kin J O.at_ O.fn (wpAny_mono z (fun v s' h => ?_) fun _ _ h => h)
  obtain ⟨vv, H', I', rv, b, rfl, q'⟩ := h
  obtain rfl : v = Value.bool b := rv
  exact ⟨H', I', q'⟩
/-- not o, as a value -/
theorem me_notO (O : OpF X cn "__bool__" C f u k) (hc : CallOk X c k) (ha : PE X a (tE c m)) : PE X (.UnaryOp .Not a pos) (tE c (mNotB (mtTO cn u m))) := by
  refine ⟨fun pins s σ H Q I h => UnaryOp_ ?_⟩
  obtain ⟨r, S, sd, q, xx, aa, hm, g, gx⟩ := h
  refine thn (ha.run pins s σ H (fun v H1 => ∃ r1 S1 d, c.Sm r1 H1 S1 ∧ c.Rd r1 H1 d v ∧ Stp r H r1 H1 ∧ isIns cn d S1 fun _ => u [d] S1 (fun r S3 => match r with
    | .bl b => q (.bl (!b)) S3
    | _ => False) noQ) I ⟨r, S, sd, _, xx, aa, hm, fun d S1 r1 v H1 h1 t1 sm1 rd1 => ⟨r1, S1, d, sm1, rd1, t1, h1⟩, gx⟩) fun v s1 ⟨vx, H1, I1, rx, r1, S1, d, sm, rd, t, h1⟩ => ?_
  obtain ⟨i, fs, x, dx, vs, rfl, rfl, _, _, e1, _, _, hu⟩ := isIns_of (C := C) h1 sm rd (by rw [hc.mg]; exact O.mg)
  obtain rfl : v = Value.ref x := rx
  obtain ⟨od, J⟩ := inst_of I1 e1
  obtain ⟨mm, fr⟩ := I1.fr
  have z : wpAny (model X.prog X.w) X.A (call (.ref f) [.ref x]) (EP X pins σ (fun v H' => ∃ b, v = .bl b ∧ Q (.bl (!b)) H')) X.xe s1 :=
    fn_run (us := [.ref x]) (vs := [.ref x]) (dl := [.ref i]) O.F hc.nw I1 (.cons rfl .nil) sm (.cons rd .nil) hu (fun d' S' r' v H' hq t' sm' rd' => by
      cases rd' with
      | bl b => exact ⟨b, rfl, g _ S' r' _ H' hq (t.trans t') sm' (.bl _)⟩
      | _ => exact hq.elim) goX_nw
  refine PyProof.Rows.not_of (PySem.W.truthy_K fr I1.ok.mod.kin J O.at_ O.fn (wpAny_mono z (fun v s' h => ?_) fun _ _ h => h))
  obtain ⟨vv, H', I', rv, b, rfl, q'⟩ := h
  obtain rfl : v = Value.bool b := rv
  exact ⟨.bl (!b), H', I', rfl, q'⟩
/-! ### x in o, x not in o -/
def mInO (cn : Str) (u : Spec) : MOp := fun d e S q => isIns cn e S fun _ => u [e, d] S (fun r S3 => match r with
    | .bl b => q (.bl b) S3
    | _ => False) noQ
def mNotInO (cn : Str) (u : Spec) : MOp := fun d e S q => isIns cn e S fun _ => u [e, d] S (fun r S3 => match r with
    | .bl b => q (.bl (!b)) S3
    | _ => False) noQ
theorem om_inO (O : OpF X cn "__contains__" C f u k) (hc : CallOk X c k) : OpM X c (compareOp .In) (mInO cn u) := by
  refine ⟨rOp c (mInO cn u), fun pins s σ H x y v w Q I rx ry h => ?_, fun _ _ _ _ h => h⟩
  obtain ⟨r, S, d, e, q, sm, rd, re, h, g⟩ := h
  obtain ⟨i, fs, x', dx, vs, rfl, rfl, _, _, e1, _, _, hu⟩ := isIns_of (C := C) h sm re (by rw [hc.mg]; exact O.mg)
  obtain rfl : w = Value.ref x' := ry
  obtain ⟨od, J⟩ := inst_of I e1
  obtain ⟨mm, fr⟩ := I.fr
  have z : wpAny (model X.prog X.w) X.A (call (.ref f) [.ref x', v]) (EP X pins σ (fun v H' => ∃ b, v = .bl b ∧ Q (.bl b) H')) X.xe s :=
    fn_run (us := [.ref x', v]) (vs := [.ref x', x]) (dl := [.ref i, d]) O.F hc.nw I (.cons rfl (.cons rx .nil)) sm (.cons re (.cons rd .nil)) hu (fun d' S' r' v H' hq t' sm' rd' => by
      cases rd' with
      | bl b => exact ⟨b, rfl, g _ S' r' _ H' hq t' sm' (.bl _)⟩
      | _ => exact hq.elim) goX_nw
  refine PySem.W.in_K fr I.ok.mod.kin J O.at_ O.fn (wpAny_mono z (fun v s' h => ?_) fun _ _ h => h)
  obtain ⟨vv, H', I', rv, b, rfl, q'⟩ := h
  obtain rfl : v = Value.bool b := rv
  exact wpAny_truthy_bool ⟨.bl b, H', I', rfl, q'⟩
theorem om_notInO (O : OpF X cn "__contains__" C f u k) (hc : CallOk X c k) : OpM X c (compareOp .NotIn) (mNotInO cn u) := by
  refine ⟨rOp c (mNotInO cn u), fun pins s σ H x y v w Q I rx ry h => ?_, fun _ _ _ _ h => h⟩
  obtain ⟨r, S, d, e, q, sm, rd, re, h, g⟩ := h
  obtain ⟨i, fs, x', dx, vs, rfl, rfl, _, _, e1, _, _, hu⟩ := isIns_of (C := C) h sm re (by rw [hc.mg]; exact O.mg)
  obtain rfl : w = Value.ref x' := ry
  obtain ⟨od, J⟩ := inst_of I e1
  obtain ⟨mm, fr⟩ := I.fr
  have z : wpAny (model X.prog X.w) X.A (call (.ref f) [.ref x', v]) (EP X pins σ (fun v H' => ∃ b, v = .bl b ∧ Q (.bl (!b)) H')) X.xe s :=
    fn_run (us := [.ref x', v]) (vs := [.ref x', x]) (dl := [.ref i, d]) O.F hc.nw I (.cons rfl (.cons rx .nil)) sm (.cons re (.cons rd .nil)) hu (fun d' S' r' v H' hq t' sm' rd' => by
      cases rd' with
      | bl b => exact ⟨b, rfl, g _ S' r' _ H' hq t' sm' (.bl _)⟩
      | _ => exact hq.elim) goX_nw
  refine PySem.W.notIn_K fr I.ok.mod.kin J O.at_ O.fn (wpAny_mono z (fun v s' h => ?_) fun _ _ h => h)
  obtain ⟨vv, H', I', rv, b, rfl, q'⟩ := h
  obtain rfl : v = Value.bool b := rv
  exact wpAny_truthy_bool ⟨.bl (!b), H', I', rfl, q'⟩
/-! ### o[i] by an own __getitem__ -/
def mGetO (cn : Str) (u : Spec) (a b : ME) : ME := fun sd S q x => a sd S (fun d S1 => b sd S1 (fun e S2 => isIns cn d S2 fun _ => u [d, e] S2 q x) x) x
theorem me_getO (O : OpF X cn "__getitem__" C f u k) (hc : CallOk X c (k + 1)) (ha : PE X a (tE c ma)) (hb : PE X b (tE c mb)) (hsl : ∀ x i, subscripted b true (.ref x) i = runValue (.builtin "lifetime.subscript" ⟨[.ref x, i], []⟩) := by intro _ _; with_unfolding_all rfl) : PE X (.Subscript a b pos) (tE c (mGetO cn u ma mb)) := by
  refine ⟨fun pins s σ H Q I h => Subscript_ ?_⟩
  obtain ⟨r, S, sd, q, xx, aa, hm, g, gx⟩ := h
  refine thn (ha.run pins s σ H (fun v H1 => ∃ r1 S1 d, At c r1 S1 sd σ H1 ∧ c.Rd r1 H1 d v ∧ Stp r H r1 H1 ∧ mb sd S1 (fun e S2 => isIns cn d S2 fun _ => u [d, e] S2 q xx) xx) I ⟨r, S, sd, _, xx, aa, hm, fun d S1 r1 v H1 h1 t1 sm1 rd1 => ⟨r1, S1, d, aa.step t1 sm1, rd1, t1, h1⟩, gx⟩) fun v s1 ⟨vx, H1, I1, rx, r1, S1, d, a1, rd1, t1, h1⟩ => ?_
  refine thn (hb.run pins s1 σ H1 (fun w H2 => ∃ r2 S2 e, c.Sm r2 H2 S2 ∧ c.Rd r2 H2 e w ∧ Stp r1 H1 r2 H2 ∧ isIns cn d S2 fun _ => u [d, e] S2 q xx) I1 ⟨r1, S1, sd, _, xx, a1, h1, fun e S2 r2 w H2 h2 t2 sm2 rd2 => ⟨r2, S2, e, sm2, rd2, t2, h2⟩, gx.step t1⟩) fun w s2 ⟨wx, H2, I2, ry, r2, S2, e, sm2, rd2, t2, h2⟩ => ?_
  obtain ⟨i, fs, x, dx, vs, rfl, rfl, _, _, e1, _, _, hu⟩ := isIns_of (C := C) h2 sm2 (rd1.mono t2) (by rw [hc.mg]; exact O.mg)
  obtain rfl : v = Value.ref x := rx
  obtain ⟨od, J⟩ := inst_of I2 e1
  obtain ⟨mm, fr⟩ := I2.fr
  have t12 := t1.trans t2
  exact PySem.W.sub_K fr I2.ok.mod.kin J O.at_ O.fi O.fn (fn_in1X (us := [.ref x, w]) (vs := [.ref x, wx]) (dl := [.ref i, e]) O.F hc I2 (.cons rfl (.cons ry .nil)) sm2 (.cons (rd1.mono t2) (.cons rd2 .nil)) hu (g.step t12) (gx.step t12)) (hsl _ _)
end
end Lw

namespace Lw
open PySem PySem.Spec PyProof.Rows L2

/-! ### methods of built-in types -/
abbrev MMt := D → List D → Sto → QD → Prop
/-- the receiver is of the built-in type T -/
def tyM (T : String) (d : D) (S : Sto) : Prop := match d with
  | .str _ => T = "str"
  | .ref n => T = "list" ∧ (seqO S n).isSome = true
  | _ => False
structure MtdM (X : Cx) (c : Cn) (id : String) (g : MMt) : Prop where
  ok : ∃ R, MtR X id R ∧ ∀ x xs H Q, (∃ r S d ds q, c.Sm r H S ∧ c.Rd r H d x ∧ c.Rs r H ds xs ∧ g d ds S q ∧ GoV c r H q Q) → R x xs H Q
def mBM (T : String) (g : MMt) (o : ME) (m : MA) : ME := fun sd S q x => o sd S (fun d S1 => tyM T d S1 ∧ m sd S1 (fun ds S2 => g d ds S2 q) x) x
section
variable {X : Cx} {c : Cn} {m ma mb mc : ME} {a b e o i : Expr} {es : List Expr} {mr : MA} {p pos apos cpos : Pos} {k : Nat} {f C : Addr} {u : Spec} {cn : Str} {T id : String} {name : Str} {g : MMt}
theorem tyM_ok {r : List Addr} {H : Hp} {S : Sto} {d : D} {v : V} (hK : c.K = X.K) (sm : c.Sm r H S) (rd : c.Rd r H d v) (h : tyM T d S) : tyV X.K T v H := by
  unfold tyM at h
  split at h
  · cases rd; exact h
  · rename_i n
    obtain ⟨h1, h2⟩ := h
    obtain ⟨ds, e⟩ := Option.isSome_iff_exists.mp h2
    obtain ⟨a, vs, rfl, _, h3, _⟩ := seq_of sm rd e
    exact .inl ⟨h1, vs, by rw [← hK]; exact h3⟩
  · exact h.elim
theorem me_bm (pa : PlainAttrs T) (slot : Slot T name id) (hty : typeOf (.builtin id) = pure (.type "method_descriptor")) (hm : MtdM X c id g) (hK : c.K = X.K) (ho : PE X o (tE c m)) (ha : PA X (e :: es) (tA c mr))
    (hbase : attributeBase o name X.env (eval o X.env) = eval o X.env := by rfl)
    (hfew : ((backTo cpos (starEach (e :: es) X.env)).all (fun x => !x.1) && (backToKw cpos (keywordEach [] X.env)).all (fun x => x.1.isSome)
      && decide ((e :: es).length + ([] : List Keyword).length + (if ([] : List Keyword).isEmpty then 0 else 1) < 30)) = true := by rfl)
    (hline : (apos.endLine == cpos.line) = true := by rfl) (hs : starEach (e :: es) X.env = (false, eval e X.env) :: starEach es X.env := by rfl) (hplain : (backTo cpos (starEach es X.env)).any (·.1) = false := by rfl) :
    PE X (.Call (.Attribute o name apos) (e :: es) [] cpos) (tE c (mBM T g m mr)) := by
  obtain ⟨R, hR, w⟩ := hm.ok
  refine weakE (pe_bm pa slot hty hR ho ha hbase hfew hline hs hplain) fun s H Q z => ?_
  obtain ⟨r, S, sd, q, x, a, hm', gv, gx⟩ := z
  refine ⟨r, S, sd, _, x, a, hm', fun d S1 r1 v H1 h1 t1 sm1 rd1 => ⟨tyM_ok hK sm1 rd1 h1.1, ?_⟩, gx⟩
  exact ⟨r1, S1, sd, _, x, a.step t1 sm1, h1.2, fun ds S2 r2 vs H2 h2 t2 sm2 rd2 => w _ _ _ _ ⟨r2, S2, d, ds, q, sm2, rd1.mono t2, rd2, h2, (gv.step t1).step t2⟩, gx.step t1⟩
theorem me_bm0 (pa : PlainAttrs T) (slot : Slot T name id) (hty : typeOf (.builtin id) = pure (.type "method_descriptor")) (hm : MtdM X c id g) (hK : c.K = X.K) (ho : PE X o (tE c m))
    (hbase : attributeBase o name X.env (eval o X.env) = eval o X.env := by rfl) (hline : (apos.endLine == cpos.line) = true := by rfl) : PE X (.Call (.Attribute o name apos) [] [] cpos) (tE c (mBM T g m maNil)) := by
  obtain ⟨R, hR, w⟩ := hm.ok
  refine weakE (pe_bm0 pa slot hty hR ho hbase hline) fun s H Q z => ?_
  obtain ⟨r, S, sd, q, x, a, hm', gv, gx⟩ := z
  refine ⟨r, S, sd, _, x, a, hm', fun d S1 r1 v H1 h1 t1 sm1 rd1 => ⟨tyM_ok hK sm1 rd1 h1.1, ?_⟩, gx⟩
  exact w _ _ _ _ ⟨r1, S1, d, [], q, sm1, rd1, .nil, h1.2, gv.step t1⟩
/-! lists -/
def gAppend : MMt := fun d ds S q => match d, ds with
  | .ref n, [y] => (match lstO S n with
    | some xs => xs.length < sizeLine ∧ q .non (S.set n (.lst (xs ++ [y])))
    | none => False)
  | _, _ => False
/-- a list that may be written -/
theorem wr_list {r : List Addr} {H : Hp} {S : Sto} {n : Nat} {a : Addr} {vs ws : List V} {ds : List D} (sm : c.Sm r H S) (er : r[n]? = some a) (eH : H a = some (.lst vs)) (rw' : c.Rs r H ds ws) :
    Stp r H r (upd H a (.lst ws)) ∧ c.Sm r (upd H a (.lst ws)) (S.set n (.lst ds)) := by
  have ha : a ∈ r := List.mem_iff_getElem?.mpr ⟨n, er⟩
  have nf : ∀ ob u, H a ≠ some (.frz ob u) := fun ob u z => by rw [eH] at z; cases z
  have t : Stp r H r (upd H a (.lst ws)) := Stp.write sm ha nf
  exact ⟨t, sm.write er nf (.lst upd_same (rw'.mono t))⟩
theorem mm_append : MtdM X c "list.append" gAppend := ⟨_, mt_append, fun x xs H Q z => by
  obtain ⟨r, S, d, ds, q, sm, rd, rs, h, g⟩ := z
  unfold gAppend at h
  split at h
  · rename_i n y
    split at h
    · rename_i ys ey
      obtain ⟨a, vs, rfl, er, eH, rv⟩ := lst_of sm rd ey
      obtain ⟨v, rfl, r1⟩ := rs1 rs
      have rw' : c.Rs r H (ys ++ [y]) (vs ++ [v]) := rv.append (.cons r1 .nil)
      obtain ⟨t, sm'⟩ := wr_list sm er eH rw'
      exact ⟨a, vs, v, rfl, rfl, eH, by rw [← rv.length]; exact h.1, g _ _ r _ _ h.2 t sm' .non⟩
    · exact h.elim
  · exact h.elim⟩
def gExtend : MMt := fun d ds S q => match d, ds with
  | .ref n, [.ref j] => (match lstO S n, lstO S j with
    | some xs, some ys => xs.length + ys.length ≤ sizeLine ∧ q .non (S.set n (.lst (xs ++ ys)))
    | _, _ => False)
  | _, _ => False
theorem mm_extend : MtdM X c "list.extend" gExtend := ⟨_, mt_extend, fun x xs H Q z => by
  obtain ⟨r, S, d, ds, q, sm, rd, rs, h, g⟩ := z
  unfold gExtend at h
  split at h
  · rename_i n j
    split at h
    · rename_i ys zs ey ez
      obtain ⟨a, vs, rfl, er, eH, rv⟩ := lst_of sm rd ey
      obtain ⟨v, rfl, r1⟩ := rs1 rs
      obtain ⟨b, ws, rfl, _, eH2, rw2⟩ := lst_of sm r1 ez
      have rw' : c.Rs r H (ys ++ zs) (vs ++ ws) := rv.append rw2
      obtain ⟨t, sm'⟩ := wr_list sm er eH rw'
      exact ⟨a, b, vs, ws, rfl, rfl, eH, eH2, by rw [← rv.length, ← rw2.length]; exact h.1, g _ _ r _ _ h.2 t sm' .non⟩
    · exact h.elim
  · exact h.elim⟩
theorem e_mBM {sd : Sg} {S : Sto} {q : QD} {x : QX} : mBM T g m mr sd S q x = m sd S (fun d S1 => tyM T d S1 ∧ mr sd S1 (fun ds S2 => g d ds S2 q) x) x := Eq.trans rfl rfl
theorem e_append {S : Sto} {q : QD} {n : Nat} {y : D} : gAppend (.ref n) [y] S q = (match lstO S n with
    | some xs => xs.length < sizeLine ∧ q .non (S.set n (.lst (xs ++ [y])))
    | none => False) := Eq.trans rfl rfl
theorem e_extend {S : Sto} {q : QD} {n j : Nat} : gExtend (.ref n) [.ref j] S q = (match lstO S n, lstO S j with
    | some xs, some ys => xs.length + ys.length ≤ sizeLine ∧ q .non (S.set n (.lst (xs ++ ys)))
    | _, _ => False) := Eq.trans rfl rfl
/-! ### a, b = a list -/
def gmUnl (n : Nat) (h : MGs) : MG := fun d sd S k => match d with
  | .ref j => (match seqO S j with
    | some ds => ds.length = n ∧ h ds sd S k
    | none => False)
  | _ => False
theorem gm_unl {kk n : Nat} {h : MGs} (hs : PGs X es (tGms c h)) (hc : X.calm = true := by rfl) (hn : (assignEach es X.env).length = n := by rfl) (hst : (assignEach es X.env).findIdx? (·.1) = none := by rfl) (hK : c.K = X.K := by rfl) : PG X (.Tuple es kk pos) (tGm c (gmUnl n h)) :=
  weakG (pg_unl hc hs hn hst) fun v s H Q z => by
    obtain ⟨r, S, sd, d, kk, a, rd, hg, nn⟩ := z
    unfold gmUnl at hg
    split at hg
    · split at hg
      · rename_i ds es
        obtain ⟨b, vs, rfl, _, h1, h2⟩ := seq_of a.sim rd es
        exact ⟨b, vs, rfl, by rw [← hK]; exact h1, by rw [← h2.length]; exact hg.1, r, S, sd, _, kk, a, h2, hg.2, nn⟩
      · exact hg.elim
    · exact hg.elim
theorem e_gmUnl {n j : Nat} {h : MGs} {sd : Sg} {S : Sto} {kk : Sg → Sto → Prop} : gmUnl n h (.ref j) sd S kk = (match seqO S j with
    | some ds => ds.length = n ∧ h ds sd S kk
    | none => False) := Eq.trans rfl rfl
end
/-! ### equations of the own methods -/
section
variable {sd : Sg} {S : Sto} {q : QD} {x : QX} {a b m : ME} {u : Spec} {cn : Str} {cs : List Str} {d e : D} {ds : List D}
theorem e_mEqO : mEqO cn cs u a b sd S q x = a sd S (fun d S1 => b sd S1 (fun e S2 => isIns cn d S2 fun _ => okE cs e S2 ∧ u [d, e] S2 q x) x) x := Eq.trans rfl rfl
theorem e_mNeO : mNeO cn cs u a b sd S q x = a sd S (fun d S1 => b sd S1 (fun e S2 => isIns cn d S2 fun _ => okE cs e S2 ∧ u [d, e] S2 (fun r S3 => match r with
  | .bl k => q (.bl (!k)) S3
  | _ => False) noQ) x) x := Eq.trans rfl rfl
theorem e_fLenO : fLenO cn u [d] S q = isIns cn d S fun _ => u [d] S (fun r S3 => match r with
    | .int n => (0 ≤ n ∧ n < 2 ^ 63) ∧ q (.int n) S3
    | _ => False) noQ := Eq.trans rfl rfl
theorem e_fBoolO : fBoolO cn u [d] S q = isIns cn d S fun _ => u [d] S (fun r S3 => match r with
    | .bl b => q (.bl b) S3
    | _ => False) noQ := Eq.trans rfl rfl
theorem e_mtTO {Q : Bool → Sto → Prop} : mtTO cn u m sd S Q x = m sd S (fun d S1 => isIns cn d S1 fun _ => u [d] S1 (fun r S3 => match r with
    | .bl b => Q b S3
    | _ => False) noQ) x := Eq.trans rfl rfl
theorem e_mInO : mInO cn u d e S q = isIns cn e S fun _ => u [e, d] S (fun r S3 => match r with
    | .bl b => q (.bl b) S3
    | _ => False) noQ := Eq.trans rfl rfl
theorem e_mNotInO : mNotInO cn u d e S q = isIns cn e S fun _ => u [e, d] S (fun r S3 => match r with
    | .bl b => q (.bl (!b)) S3
    | _ => False) noQ := Eq.trans rfl rfl
theorem e_mGetO : mGetO cn u a b sd S q x = a sd S (fun d S1 => b sd S1 (fun e S2 => isIns cn d S2 fun _ => u [d, e] S2 q x) x) x := Eq.trans rfl rfl
/-! comprehensions -/
theorem e_mComp {mi : MI} {vs : List Nat} {g : MG} {t : MT} : mComp mi vs g t m sd S q x = mi sd S (fun it S1 => compL it.ok g t m (wipeD sd vs) (fun ys S2 => q (.ref S2.length) (S2 ++ [.lst ys])) it.items [] S1) x := Eq.trans rfl rfl
theorem e_mtYes {Q : Bool → Sto → Prop} : mtYes sd S Q x = Q true S := Eq.trans rfl rfl
end
end Lw

namespace Lw
open PySem PySem.Spec PyProof.Rows L2

section
variable {X : Cx} {c : Cn} {m ma mb : ME} {a b e o fx : Expr} {es : List Expr} {mr : MA} {p pos : Pos} {k : Nat} {f C : Addr} {u : Spec} {cn : Str} {cs : List Str} {t : MT}
theorem mts_one (h : PT X e (tT c t)) : PTs X [e] (tT c t) := pts_one h
theorem nest_mono {M : Model} {A : Around} {E : Value → Shared → Prop} {s : Shared} {ea eb : Sem Value} {op : Value → Value → Sem Value} {P : Value → Shared → Prop} {R : Value → Value → Value → Shared → Prop}
    (h : wpAny M A ea (fun v s₁ => wpAny M A eb (fun u s₂ => wpAny M A (op v u) P E s₂) E s₁) E s) (g : ∀ v u c s', P c s' → R v u c s') :
    wpAny M A ea (fun v s₁ => wpAny M A eb (fun u s₂ => wpAny M A (op v u) (R v u) E s₂) E s₁) E s :=
  wpAny_mono h (fun v s1 h1 => wpAny_mono h1 (fun u s2 h2 => wpAny_mono h2 (fun c s3 h3 => g v u c s3 h3) fun _ _ z => z) fun _ _ z => z) fun _ _ z => z
/-! own == and != as tests -/
theorem eqO_nest {pins : List (Addr × Obj)} {σ : L2.St} {H : Hp} {s : Shared} {Q : VK} (O : OpF X cn "__eq__" C f u k) (Ow : Owns X.K X.mg cs) (E : EqF X.K X.mg C cs) (hc : CallOk X c k) (ha : PE X a (tE c ma)) (hb : PE X b (tE c mb)) (I : Inv X pins σ H s) (h : tE c (mEqO cn cs u ma mb) σ H Q) :
    wpAny (model X.prog X.w) X.A (eval a X.env) (fun v s₁ => wpAny (model X.prog X.w) X.A (eval b X.env) (fun u s₂ => wpAny (model X.prog X.w) X.A (compareOp .Eq v u) (EP X pins σ Q) X.xe s₂) X.xe s₁) X.xe s := by
  refine two_run (K3 := fun d e S q x => u [d, e] S q x) (op := compareOp .Eq) ha hb I h hc.mg O.mg ?_
  intro s1 x od w wx H1 r S d e q xx I1 J ry sm rd re ok hu g gx
  have hu' : u ([d, e] ++ []) S q xx := hu
  clear hu h
  show wpAny (model X.prog X.w) X.A (richCompare .Eq (.ref x) w) (EP X pins σ Q) X.xe s1
  obtain ⟨mm, fr⟩ := I1.fr
  obtain ⟨t, L, nf⟩ := right_ok hc.K hc.mg Ow E I1 ry sm re ok
  have z : wpAny (model X.prog X.w) X.A (call (.ref f) [.ref x, w]) (EP X pins σ Q) X.xe s1 := fn_run (us := [.ref x, w]) (vs := [.ref x, wx]) (dl := [d, e]) O.F hc I1 (.cons rfl (.cons ry .nil)) sm (.cons rd (.cons re .nil)) hu' g gx
  have z2 : wpAny (model X.prog X.w) X.A (call (.ref f) [.ref x, w]) (PySem.W.CmpBack (EP X pins σ Q)) X.xe s1 := wpAny_mono z (fun v s' h => back_of h) fun _ _ h => h
  exact PySem.W.cmp_K (op := .Eq) hc.u0 fr I1.ok.mod.kin J L nf O.at_ O.fn z2
theorem neO_nest {pins : List (Addr × Obj)} {σ : L2.St} {H : Hp} {s : Shared} {Q : VK} (O : OpF X cn "__eq__" C f u k) (Ow : Owns X.K X.mg cs) (E : EqF X.K X.mg C cs) (N : NeF X.K C) (hc : CallOk X c (k + 1)) (ha : PE X a (tE c ma)) (hb : PE X b (tE c mb)) (I : Inv X pins σ H s) (h : tE c (mNeO cn cs u ma mb) σ H Q) :
    wpAny (model X.prog X.w) X.A (eval a X.env) (fun v s₁ => wpAny (model X.prog X.w) X.A (eval b X.env) (fun u s₂ => wpAny (model X.prog X.w) X.A (compareOp .NotEq v u) (EP X pins σ Q) X.xe s₂) X.xe s₁) X.xe s := by
  refine two_run (K3 := fun d e S q x => u [d, e] S (fun r S3 => match r with
      | .bl k => q (.bl (!k)) S3
      | _ => False) noQ) (op := compareOp .NotEq) ha hb I h hc.mg O.mg ?_
  intro s1 x od w wx H1 r S d e q xx I1 J ry sm rd re ok hu g gx
  have hu' : u [d, e] S (fun r S3 => match r with
      | .bl k => q (.bl (!k)) S3
      | _ => False) noQ := hu
  clear hu h
  show wpAny (model X.prog X.w) X.A (richCompare .NotEq (.ref x) w) (EP X pins σ Q) X.xe s1
  obtain ⟨mm, fr⟩ := I1.fr
  obtain ⟨t, L, nf⟩ := right_ok hc.K hc.mg Ow E I1 ry sm re ok
  have gq : GoV c r H1 (fun r S3 => match r with
      | .bl k => q (.bl (!k)) S3
      | _ => False) (fun v H' => ∃ b, v = .bl b ∧ Q (.bl (!b)) H') := fun d' S' r' v H' hq t' sm' rd' => by
    cases rd' with
    | bl b => exact ⟨b, rfl, g _ S' r' _ H' hq t' sm' (.bl _)⟩
    | _ => exact hq.elim
  have z : wpAny (model X.prog X.w) X.A.in1 (call (.ref f) [.ref x, w]) (EP X pins σ (fun v H' => ∃ b, v = .bl b ∧ Q (.bl (!b)) H')) X.xe s1 := fn_in1 (us := [.ref x, w]) (vs := [.ref x, wx]) (dl := [d, e]) O.F hc I1 (.cons rfl (.cons ry .nil)) sm (.cons rd (.cons re .nil)) hu' gq
  have room : X.A.units + 1 < cLine := by have := hc.room.un; omega
  refine ne_own room fr I1.ok.mod.kin J L nf N.ne N.ob O.at_ O.fn (wpAny_mono z (fun v s' h => ?_) fun _ _ h => h)
  obtain ⟨vv, H', I', rv, b, rfl, q'⟩ := h
  obtain rfl : v = Value.bool b := rv
  exact ⟨b, rfl, .bl (!b), H', I', rfl, q'⟩
/-- a test from a comparison as a value -/
theorem tst_nest {pins : List (Addr × Obj)} {σ : L2.St} {s : Shared} {op : CmpOp} {Q : Bool → Hp → Prop} (hm : behindInMarks op b = false)
    (h : wpAny (model X.prog X.w) X.A (eval a X.env) (fun v s₁ => wpAny (model X.prog X.w) X.A (eval b X.env) (fun u s₂ => wpAny (model X.prog X.w) X.A (compareOp op v u) (EP X pins σ fun v H' => ∃ k, v = .bl k ∧ Q k H') X.xe s₂) X.xe s₁) X.xe s) :
    wpAny (model X.prog X.w) X.A (isTrue (.Compare a [op] [b] pos) X.env (eval (.Compare a [op] [b] pos) X.env)) (TP X pins σ Q) X.xe s := by
  refine wpAny_isTrue_Compare1 (nest_mono (R := fun v u c s' => wpAny (model X.prog X.w) X.A (truthy c) (TP X pins σ Q) X.xe s') h fun v u c s' hc => ?_) hm
  obtain ⟨z, H3, I3, r3, k, e, q3⟩ := hc
  subst e
  obtain rfl : c = Value.bool k := r3
  exact wpAny_truthy_bool ⟨H3, I3, q3⟩
theorem mtB_val {mm : ME} {s : L2.St} {H : Hp} {Q : Bool → Hp → Prop} (h : tT c (mtB mm) s H Q) : tE c mm s H (fun v H' => ∃ k, v = .bl k ∧ Q k H') := by
  obtain ⟨r, S, sd, q, x, a, hm, g, gx⟩ := h
  refine ⟨r, S, sd, _, x, a, hm, fun d S1 r1 v H1 h1 t1 s1 rd1 => ?_, gx⟩
  cases rd1 with
  | bl b => exact ⟨b, rfl, g b S1 r1 H1 h1 t1 s1⟩
  | _ => exact h1.elim
theorem mt_eqO (O : OpF X cn "__eq__" C f u k) (Ow : Owns X.K X.mg cs) (E : EqF X.K X.mg C cs) (hc : CallOk X c k) (ha : PE X a (tE c ma)) (hb : PE X b (tE c mb)) : PT X (.Compare a [.Eq] [b] pos) (tT c (mtB (mEqO cn cs u ma mb))) :=
  ⟨fun pins s σ H Q I h => tst_nest (nomark _) (eqO_nest O Ow E hc ha hb I (mtB_val h))⟩
theorem mt_neO (O : OpF X cn "__eq__" C f u k) (Ow : Owns X.K X.mg cs) (E : EqF X.K X.mg C cs) (N : NeF X.K C) (hc : CallOk X c (k + 1)) (ha : PE X a (tE c ma)) (hb : PE X b (tE c mb)) : PT X (.Compare a [.NotEq] [b] pos) (tT c (mtB (mNeO cn cs u ma mb))) :=
  ⟨fun pins s σ H Q I h => tst_nest (nomark _) (neO_nest O Ow E N hc ha hb I (mtB_val h))⟩
/-! any expression called -/
theorem me_callOX (O : OpF X cn "__call__" C f u k) (hc : CallOk X c k) (ho : PE X fx (tE c m)) (ha : PA X (e :: es) (tA c mr))
    (hev : eval (.Call fx (e :: es) [] pos) X.env = (do callWith pos (← eval fx X.env) [] (backTo pos (starEach (e :: es) X.env)) (backToKw pos (keywordEach [] X.env))) := by rfl)
    (he : starEach (e :: es) X.env = (false, eval e X.env) :: starEach es X.env := by rfl) (hpl : (backTo pos (starEach es X.env)).any (·.1) = false := by rfl) :
    PE X (.Call fx (e :: es) [] pos) (tE c (mCallO cn u m mr)) := by
  refine ⟨fun pins s σ H Q I h => Call_ ?_ hev⟩
  obtain ⟨r, S, sd, q, xx, aa, hm, g, gx⟩ := h
  refine thn (ho.run pins s σ H (fun v H1 => ∃ r1 S1 d, At c r1 S1 sd σ H1 ∧ c.Rd r1 H1 d v ∧ Stp r H r1 H1 ∧ (∃ i, d = .ref i ∧ ∃ x', v = V.ref x') ∧ mr sd S1 (fun ds S2 => isIns cn d S2 fun _ => u (d :: ds) S2 q xx) xx) I ⟨r, S, sd, _, xx, aa, hm, fun d S1 r1 v H1 h1 t1 sm1 rd1 => ?_, gx⟩) fun v s1 ⟨vx, H1, I1, rx, r1, S1, d, a1, rd1, t1, ⟨i, ed, x', ev⟩, h1⟩ => ?_
  · obtain ⟨i, fs, x', dx, vs, rfl, rfl, _, _, _, _, _, hu⟩ := isIns_of (C := C) h1 sm1 rd1 (by rw [hc.mg]; exact O.mg)
    exact ⟨r1, S1, _, aa.step t1 sm1, rd1, t1, ⟨i, rfl, x', rfl⟩, hu⟩
  · subst ed ev
    obtain rfl : v = Value.ref x' := rx
    rw [he]
    refine callWith_inst (by show ((false || (backTo pos (starEach es X.env)).any (·.1)) || false) = false; rw [hpl]; rfl) (PySem.Calls.evalArgs_plain ?_)
    have hq := ha.run pos pins s1 σ H1 (fun ws H2 => ∃ r2 S2 ds, c.Sm r2 H2 S2 ∧ c.Rs r2 H2 ds ws ∧ Stp r1 H1 r2 H2 ∧ isIns cn (.ref i) S2 fun _ => u (.ref i :: ds) S2 q xx) I1 ⟨r1, S1, sd, _, xx, a1, h1, fun ds S2 r2 ws H2 h2 t2 sm2 rd2 => ⟨r2, S2, ds, sm2, rd2, t2, h2⟩, gx.step t1⟩
    rw [he] at hq
    refine thn hq fun us s2 ⟨ws, H2, I2, rr, r2, S2, ds, sm2, rd2, t2, h2⟩ => ?_
    obtain ⟨i', fs, y, dx, vs, ei, ey, er, _, e1, _, _, hu⟩ := isIns_of (C := C) h2 sm2 (rd1.mono t2) (by rw [hc.mg]; exact O.mg)
    cases ei; cases ey
    obtain ⟨od, J⟩ := inst_of I2 e1
    have t12 := t1.trans t2
    refine ⟨⟨_, _, _, J⟩, wpAny_call (PySem.W.kco_code I2.kIn J rfl O.at_ O.fn O.fi ?_)⟩
    exact fn_code (us := .ref x' :: us) (vs := .ref x' :: ws) (dl := .ref i :: ds) O.F hc I2 (.cons rfl rr) sm2 (.cons (rd1.mono t2) rd2) hu (g.step t12) (gx.step t12)
end
end Lw

namespace Lw
open PySem PySem.Spec PyProof.Rows L2

/-! ### defs with defaults: n values are written, the defaults behind the first j fill up -/
theorem fdg_of1 {P : Program} {w : World} {K : PySem.W.Frag} {mg : Mg} {base : Heap} {x qual : Str} {params : Arguments} {bd : List Stmt} {scope : Scope} {f : Addr} {fd : FuncData} {k : Nat} {ps : List Str} {u : Spec} {dvs : List V} {dd : List D}
    (F : FunD K x qual params bd scope dvs [] f fd) (G : FnG P w K mg base k f fd ps (spOf K mg u)) (n j : Nat) (hd : dvs ≠ []) (hn : n + (dvs.length - j) = ps.length) (hdd : ∀ r H, RelDs K mg r H dd (dvs.drop j))
    (hb : ∀ (T : Addr) (kV doc pm : Value) (an : Option Addr) (cdv ct : Value) (us its : List Value), us.length = n → its.length = dvs.length →
      ∃ k, bindArgs (PySem.W.fnOf x qual params bd scope (.ref T) kV doc pm an cdv ct) ⟨us, []⟩ = seqItems? (.ref T) >>= k ∧ k (some its.toArray) = pure (ps.zip (us ++ its.drop j))) : FdG P w K mg base k f u dd :=
  let ⟨ds, hv, hbi⟩ := F.binds1 n j hd hn hb
  ⟨⟨fd, ps, dvs.drop j, ds, G, hbi, hv, hdd⟩, F.kp⟩
end Lw

namespace Lw
open PySem PySem.Spec PyProof.Rows L2
/-! ### the classes, the tables -/
def CLS : List Str := ["Symmetry"]
def tab_STEPS : List (Str × D) := [("square", .tup [.tup [.int (1), .int (0)], .tup [.int (0), .int (1)], .tup [.int (-1), .int (0)], .tup [.int (0), .int (-1)]]), ("triangle", .tup [.tup [.int (1), .int (0)], .tup [.int (0), .int (1)], .tup [.int (-1), .int (1)], .tup [.int (-1), .int (0)], .tup [.int (0), .int (-1)], .tup [.int (1), .int (-1)]])]
/-! ### what the defs do -/
theorem x_b__law_source_1 : ∃ m : MS, m = (mSeq (mIfS (mtB (mOp mLt (mVar 3) (mOp mPow (mC (.int (10))) (mC (.int (18)))))) (mAsg (mC (.int (0))) (gmName 3)) mNext) (mRet (mLst (maCons (mVar 3) (maCons (mVar 4) maNil))))) := ⟨_, rfl⟩
noncomputable def b__law_source_1 : MS := Classical.choose x_b__law_source_1
theorem e_b__law_source_1 : b__law_source_1 = (mSeq (mIfS (mtB (mOp mLt (mVar 3) (mOp mPow (mC (.int (10))) (mC (.int (18)))))) (mAsg (mC (.int (0))) (gmName 3)) mNext) (mRet (mLst (maCons (mVar 3) (maCons (mVar 4) maNil))))) := Classical.choose_spec x_b__law_source_1
theorem x_b__law_source_2 : ∃ m : MS, m = (mSeq (mAsg (mOp mMod (mOp mAdd (mOp mAdd (mOp mMul (mOp mMod (mVar 3) (mC (.int (2147483629)))) (mC (.int (16807)))) (mOp mMul (mC (.int (104729))) (mVar 1))) (mC (.int (11)))) (mC (.int (2147483647)))) (gmName 4)) b__law_source_1) := ⟨_, rfl⟩
noncomputable def b__law_source_2 : MS := Classical.choose x_b__law_source_2
theorem e_b__law_source_2 : b__law_source_2 = (mSeq (mAsg (mOp mMod (mOp mAdd (mOp mAdd (mOp mMul (mOp mMod (mVar 3) (mC (.int (2147483629)))) (mC (.int (16807)))) (mOp mMul (mC (.int (104729))) (mVar 1))) (mC (.int (11)))) (mC (.int (2147483647)))) (gmName 4)) b__law_source_1) := Classical.choose_spec x_b__law_source_2
theorem x_b__law_source_3 : ∃ m : MS, m = (mSeq (mAsg (mFn fMax2 (maCons (mVar 2) (maCons (mOp mSub (mNeg (mC (.int (1)))) (mVar 2)) maNil))) (gmName 3)) b__law_source_2) := ⟨_, rfl⟩
noncomputable def b__law_source_3 : MS := Classical.choose x_b__law_source_3
theorem e_b__law_source_3 : b__law_source_3 = (mSeq (mAsg (mFn fMax2 (maCons (mVar 2) (maCons (mOp mSub (mNeg (mC (.int (1)))) (mVar 2)) maNil))) (gmName 3)) b__law_source_2) := Classical.choose_spec x_b__law_source_3
theorem x_b__law_source_4 : ∃ m : MS, m = (mSeq (mIfS (mtB (mOp mLt (mVar 1) (mFn fLen (maCons (mVar 0) maNil)))) (mAsg (mOp mIx (mVar 0) (mVar 1)) (gmName 2)) mNext) b__law_source_3) := ⟨_, rfl⟩
noncomputable def b__law_source_4 : MS := Classical.choose x_b__law_source_4
theorem e_b__law_source_4 : b__law_source_4 = (mSeq (mIfS (mtB (mOp mLt (mVar 1) (mFn fLen (maCons (mVar 0) maNil)))) (mAsg (mOp mIx (mVar 0) (mVar 1)) (gmName 2)) mNext) b__law_source_3) := Classical.choose_spec x_b__law_source_4
theorem x_b__law_source : ∃ m : MS, m = (mSeq (mAsg (mC (.int (0))) (gmName 2)) b__law_source_4) := ⟨_, rfl⟩
noncomputable def b__law_source : MS := Classical.choose x_b__law_source
theorem e_b__law_source : b__law_source = (mSeq (mAsg (mC (.int (0))) (gmName 2)) b__law_source_4) := Classical.choose_spec x_b__law_source
theorem x_u__law_source : ∃ m : Spec, m = body 2 5 b__law_source := ⟨_, rfl⟩
noncomputable def u__law_source : Spec := Classical.choose x_u__law_source
theorem e_u__law_source : u__law_source = body 2 5 b__law_source := Classical.choose_spec x_u__law_source
theorem x_b__law_draw_1 : ∃ m : MS, m = (mSeq (mAsg (mOp mFdiv (mOp mIx (mVar 0) (mC (.int (0)))) (mVar 1)) (gmSub (mVar 0) (mC (.int (0))))) (mRet (mVar 2))) := ⟨_, rfl⟩
noncomputable def b__law_draw_1 : MS := Classical.choose x_b__law_draw_1
theorem e_b__law_draw_1 : b__law_draw_1 = (mSeq (mAsg (mOp mFdiv (mOp mIx (mVar 0) (mC (.int (0)))) (mVar 1)) (gmSub (mVar 0) (mC (.int (0))))) (mRet (mVar 2))) := Classical.choose_spec x_b__law_draw_1
theorem x_b__law_draw_2 : ∃ m : MS, m = (mSeq (mAsg (mOp mMod (mOp mIx (mVar 0) (mC (.int (0)))) (mVar 1)) (gmName 2)) b__law_draw_1) := ⟨_, rfl⟩
noncomputable def b__law_draw_2 : MS := Classical.choose x_b__law_draw_2
theorem e_b__law_draw_2 : b__law_draw_2 = (mSeq (mAsg (mOp mMod (mOp mIx (mVar 0) (mC (.int (0)))) (mVar 1)) (gmName 2)) b__law_draw_1) := Classical.choose_spec x_b__law_draw_2
theorem x_b__law_draw_3 : ∃ m : MS, m = (mSeq (mAsg (mOp mMod (mOp mAdd (mOp mMul (mOp mIx (mVar 0) (mC (.int (1)))) (mC (.int (48271)))) (mC (.int (11)))) (mC (.int (2147483647)))) (gmSub (mVar 0) (mC (.int (1))))) (mRet (mOp mMod (mOp mFdiv (mOp mMod (mOp mMul (mOp mIx (mVar 0) (mC (.int (1)))) (mOp mIx (mVar 0) (mC (.int (1))))) (mC (.int (2147483629)))) (mC (.int (64)))) (mVar 1)))) := ⟨_, rfl⟩
noncomputable def b__law_draw_3 : MS := Classical.choose x_b__law_draw_3
theorem e_b__law_draw_3 : b__law_draw_3 = (mSeq (mAsg (mOp mMod (mOp mAdd (mOp mMul (mOp mIx (mVar 0) (mC (.int (1)))) (mC (.int (48271)))) (mC (.int (11)))) (mC (.int (2147483647)))) (gmSub (mVar 0) (mC (.int (1))))) (mRet (mOp mMod (mOp mFdiv (mOp mMod (mOp mMul (mOp mIx (mVar 0) (mC (.int (1)))) (mOp mIx (mVar 0) (mC (.int (1))))) (mC (.int (2147483629)))) (mC (.int (64)))) (mVar 1)))) := Classical.choose_spec x_b__law_draw_3
theorem x_b__law_draw : ∃ m : MS, m = (mSeq (mIfS (mtB (mOp mGt (mOp mIx (mVar 0) (mC (.int (0)))) (mC (.int (0))))) b__law_draw_2 mNext) b__law_draw_3) := ⟨_, rfl⟩
noncomputable def b__law_draw : MS := Classical.choose x_b__law_draw
theorem e_b__law_draw : b__law_draw = (mSeq (mIfS (mtB (mOp mGt (mOp mIx (mVar 0) (mC (.int (0)))) (mC (.int (0))))) b__law_draw_2 mNext) b__law_draw_3) := Classical.choose_spec x_b__law_draw
theorem x_u__law_draw : ∃ m : Spec, m = body 2 3 b__law_draw := ⟨_, rfl⟩
noncomputable def u__law_draw : Spec := Classical.choose x_u__law_draw
theorem e_u__law_draw : u__law_draw = body 2 3 b__law_draw := Classical.choose_spec x_u__law_draw
theorem x_b__law_big_1 : ∃ m : MS, m = (mAsg (mOp mAdd (mOp mMul (mC (.int (10))) (mVar 2)) (mCall u__law_draw [] (maCons (mVar 0) (maCons (mC (.int (10))) maNil)))) (gmName 2)) := ⟨_, rfl⟩
noncomputable def b__law_big_1 : MS := Classical.choose x_b__law_big_1
theorem e_b__law_big_1 : b__law_big_1 = (mAsg (mOp mAdd (mOp mMul (mC (.int (10))) (mVar 2)) (mCall u__law_draw [] (maCons (mVar 0) (maCons (mC (.int (10))) maNil)))) (gmName 2)) := Classical.choose_spec x_b__law_big_1
theorem x_b__law_big_2 : ∃ m : MS, m = (mSeq (mFor (miRange1 (maCons (mOp mSub (mVar 1) (mC (.int (1)))) maNil)) (gmName 3) b__law_big_1) (mRet (mVar 2))) := ⟨_, rfl⟩
noncomputable def b__law_big_2 : MS := Classical.choose x_b__law_big_2
theorem e_b__law_big_2 : b__law_big_2 = (mSeq (mFor (miRange1 (maCons (mOp mSub (mVar 1) (mC (.int (1)))) maNil)) (gmName 3) b__law_big_1) (mRet (mVar 2))) := Classical.choose_spec x_b__law_big_2
theorem x_b__law_big_3 : ∃ m : MS, m = (mSeq (mAsg (mOp mAdd (mCall u__law_draw [] (maCons (mVar 0) (maCons (mC (.int (10))) maNil))) (mC (.int (1)))) (gmName 2)) b__law_big_2) := ⟨_, rfl⟩
noncomputable def b__law_big_3 : MS := Classical.choose x_b__law_big_3
theorem e_b__law_big_3 : b__law_big_3 = (mSeq (mAsg (mOp mAdd (mCall u__law_draw [] (maCons (mVar 0) (maCons (mC (.int (10))) maNil))) (mC (.int (1)))) (gmName 2)) b__law_big_2) := Classical.choose_spec x_b__law_big_3
theorem x_b__law_big : ∃ m : MS, m = (mSeq (mAsg (mOp mIx (mLst (maCons (mC (.int (1))) (maCons (mC (.int (2))) (maCons (mC (.int (9))) (maCons (mC (.int (30))) maNil))))) (mCall u__law_draw [] (maCons (mVar 0) (maCons (mC (.int (4))) maNil)))) (gmName 1)) b__law_big_3) := ⟨_, rfl⟩
noncomputable def b__law_big : MS := Classical.choose x_b__law_big
theorem e_b__law_big : b__law_big = (mSeq (mAsg (mOp mIx (mLst (maCons (mC (.int (1))) (maCons (mC (.int (2))) (maCons (mC (.int (9))) (maCons (mC (.int (30))) maNil))))) (mCall u__law_draw [] (maCons (mVar 0) (maCons (mC (.int (4))) maNil)))) (gmName 1)) b__law_big_3) := Classical.choose_spec x_b__law_big
theorem x_u__law_big : ∃ m : Spec, m = body 1 4 b__law_big := ⟨_, rfl⟩
noncomputable def u__law_big : Spec := Classical.choose x_u__law_big
theorem e_u__law_big : u__law_big = body 1 4 b__law_big := Classical.choose_spec x_u__law_big
theorem x_b__law_steps_1 : ∃ m : MS, m = (mRet (mLst (maCons (mTup (maCons (mC (.int (1))) (maCons (mC (.int (0))) maNil))) (maCons (mTup (maCons (mC (.int (0))) (maCons (mC (.int (1))) maNil))) (maCons (mTup (maCons (mNeg (mC (.int (1)))) (maCons (mC (.int (0))) maNil))) (maCons (mTup (maCons (mC (.int (0))) (maCons (mNeg (mC (.int (1)))) maNil))) maNil)))))) := ⟨_, rfl⟩
noncomputable def b__law_steps_1 : MS := Classical.choose x_b__law_steps_1
theorem e_b__law_steps_1 : b__law_steps_1 = (mRet (mLst (maCons (mTup (maCons (mC (.int (1))) (maCons (mC (.int (0))) maNil))) (maCons (mTup (maCons (mC (.int (0))) (maCons (mC (.int (1))) maNil))) (maCons (mTup (maCons (mNeg (mC (.int (1)))) (maCons (mC (.int (0))) maNil))) (maCons (mTup (maCons (mC (.int (0))) (maCons (mNeg (mC (.int (1)))) maNil))) maNil)))))) := Classical.choose_spec x_b__law_steps_1
theorem x_b__law_steps : ∃ m : MS, m = (mSeq (mIfS (mtB (mOp mEq (mVar 0) (mC (.str "square")))) b__law_steps_1 mNext) (mRet (mLst (maCons (mTup (maCons (mC (.int (1))) (maCons (mC (.int (0))) maNil))) (maCons (mTup (maCons (mC (.int (0))) (maCons (mC (.int (1))) maNil))) (maCons (mTup (maCons (mNeg (mC (.int (1)))) (maCons (mC (.int (1))) maNil))) (maCons (mTup (maCons (mNeg (mC (.int (1)))) (maCons (mC (.int (0))) maNil))) (maCons (mTup (maCons (mC (.int (0))) (maCons (mNeg (mC (.int (1)))) maNil))) (maCons (mTup (maCons (mC (.int (1))) (maCons (mNeg (mC (.int (1)))) maNil))) maNil))))))))) := ⟨_, rfl⟩
noncomputable def b__law_steps : MS := Classical.choose x_b__law_steps
theorem e_b__law_steps : b__law_steps = (mSeq (mIfS (mtB (mOp mEq (mVar 0) (mC (.str "square")))) b__law_steps_1 mNext) (mRet (mLst (maCons (mTup (maCons (mC (.int (1))) (maCons (mC (.int (0))) maNil))) (maCons (mTup (maCons (mC (.int (0))) (maCons (mC (.int (1))) maNil))) (maCons (mTup (maCons (mNeg (mC (.int (1)))) (maCons (mC (.int (1))) maNil))) (maCons (mTup (maCons (mNeg (mC (.int (1)))) (maCons (mC (.int (0))) maNil))) (maCons (mTup (maCons (mC (.int (0))) (maCons (mNeg (mC (.int (1)))) maNil))) (maCons (mTup (maCons (mC (.int (1))) (maCons (mNeg (mC (.int (1)))) maNil))) maNil))))))))) := Classical.choose_spec x_b__law_steps
theorem x_u__law_steps : ∃ m : Spec, m = body 1 1 b__law_steps := ⟨_, rfl⟩
noncomputable def u__law_steps : Spec := Classical.choose x_u__law_steps
theorem e_u__law_steps : u__law_steps = body 1 1 b__law_steps := Classical.choose_spec x_u__law_steps
theorem x_b__law_parts : ∃ m : MS, m = (mSeq (mAsg (mTup (maCons (mOp mSub (mCall u__law_draw [] (maCons (mVar 0) (maCons (mOp mAdd (mOp mMul (mC (.int (2))) (mVar 2)) (mC (.int (1)))) maNil))) (mVar 2)) (maCons (mOp mSub (mCall u__law_draw [] (maCons (mVar 0) (maCons (mOp mAdd (mOp mMul (mC (.int (2))) (mVar 2)) (mC (.int (1)))) maNil))) (mVar 2)) maNil))) (gmName 3)) (mRet (mLst (maCons (mVar 3) (maCons (mCall u__law_draw [] (maCons (mVar 0) (maCons (mFn fLen (maCons (mCall u__law_steps [] (maCons (mVar 1) maNil)) maNil)) maNil))) (maCons (mOp mEq (mCall u__law_draw [] (maCons (mVar 0) (maCons (mC (.int (2))) maNil))) (mC (.int (1)))) maNil)))))) := ⟨_, rfl⟩
noncomputable def b__law_parts : MS := Classical.choose x_b__law_parts
theorem e_b__law_parts : b__law_parts = (mSeq (mAsg (mTup (maCons (mOp mSub (mCall u__law_draw [] (maCons (mVar 0) (maCons (mOp mAdd (mOp mMul (mC (.int (2))) (mVar 2)) (mC (.int (1)))) maNil))) (mVar 2)) (maCons (mOp mSub (mCall u__law_draw [] (maCons (mVar 0) (maCons (mOp mAdd (mOp mMul (mC (.int (2))) (mVar 2)) (mC (.int (1)))) maNil))) (mVar 2)) maNil))) (gmName 3)) (mRet (mLst (maCons (mVar 3) (maCons (mCall u__law_draw [] (maCons (mVar 0) (maCons (mFn fLen (maCons (mCall u__law_steps [] (maCons (mVar 1) maNil)) maNil)) maNil))) (maCons (mOp mEq (mCall u__law_draw [] (maCons (mVar 0) (maCons (mC (.int (2))) maNil))) (mC (.int (1)))) maNil)))))) := Classical.choose_spec x_b__law_parts
theorem x_u__law_parts : ∃ m : Spec, m = body 3 4 b__law_parts := ⟨_, rfl⟩
noncomputable def u__law_parts : Spec := Classical.choose x_u__law_parts
theorem e_u__law_parts : u__law_parts = body 3 4 b__law_parts := Classical.choose_spec x_u__law_parts
theorem x_b_law_1 : ∃ m : MS, m = (mAsg (mOp mIx (mVar 5) (mC (.int (0)))) (gmSub (mVar 5) (mC (.int (1))))) := ⟨_, rfl⟩
noncomputable def b_law_1 : MS := Classical.choose x_b_law_1
theorem e_b_law_1 : b_law_1 = (mAsg (mOp mIx (mVar 5) (mC (.int (0)))) (gmSub (mVar 5) (mC (.int (1))))) := Classical.choose_spec x_b_law_1
theorem x_b_is_net : ∃ m : MS, m = (mRet (mAnd (mIsiB "str" CLS (mVar 0)) (mOp (mInT "STEPS" tab_STEPS) (mVar 0) (mC (.nm "STEPS"))))) := ⟨_, rfl⟩
noncomputable def b_is_net : MS := Classical.choose x_b_is_net
theorem e_b_is_net : b_is_net = (mRet (mAnd (mIsiB "str" CLS (mVar 0)) (mOp (mInT "STEPS" tab_STEPS) (mVar 0) (mC (.nm "STEPS"))))) := Classical.choose_spec x_b_is_net
theorem x_u_is_net : ∃ m : Spec, m = body 1 1 b_is_net := ⟨_, rfl⟩
noncomputable def u_is_net : Spec := Classical.choose x_u_is_net
theorem e_u_is_net : u_is_net = body 1 1 b_is_net := Classical.choose_spec x_u_is_net
theorem x_b_check_net : ∃ m : MS, m = (mIfS (mtNot (mtB (mCall u_is_net [] (maCons (mVar 0) maNil)))) (mRaise "InvalidNet" ["given"] (maCons (mVar 0) maNil)) mNext) := ⟨_, rfl⟩
noncomputable def b_check_net : MS := Classical.choose x_b_check_net
theorem e_b_check_net : b_check_net = (mIfS (mtNot (mtB (mCall u_is_net [] (maCons (mVar 0) maNil)))) (mRaise "InvalidNet" ["given"] (maCons (mVar 0) maNil)) mNext) := Classical.choose_spec x_b_check_net
theorem x_u_check_net : ∃ m : Spec, m = body 1 1 b_check_net := ⟨_, rfl⟩
noncomputable def u_check_net : Spec := Classical.choose x_u_check_net
theorem e_u_check_net : u_check_net = body 1 1 b_check_net := Classical.choose_spec x_u_check_net
theorem x_b_is_integer : ∃ m : MS, m = (mRet (mAnd (mIsiB "int" CLS (mVar 0)) (mNotB (mtT (mIsiB "bool" CLS (mVar 0)))))) := ⟨_, rfl⟩
noncomputable def b_is_integer : MS := Classical.choose x_b_is_integer
theorem e_b_is_integer : b_is_integer = (mRet (mAnd (mIsiB "int" CLS (mVar 0)) (mNotB (mtT (mIsiB "bool" CLS (mVar 0)))))) := Classical.choose_spec x_b_is_integer
theorem x_u_is_integer : ∃ m : Spec, m = body 1 1 b_is_integer := ⟨_, rfl⟩
noncomputable def u_is_integer : Spec := Classical.choose x_u_is_integer
theorem e_u_is_integer : u_is_integer = body 1 1 b_is_integer := Classical.choose_spec x_u_is_integer
theorem x_b_is_place : ∃ m : MS, m = (mRet (mAnd (mIsiB "tuple" CLS (mVar 0)) (mAnd (mOp mEq (mFn fLen (maCons (mVar 0) maNil)) (mC (.int (2)))) (mAnd (mCall u_is_integer [] (maCons (mOp mIx (mVar 0) (mC (.int (0)))) maNil)) (mCall u_is_integer [] (maCons (mOp mIx (mVar 0) (mC (.int (1)))) maNil)))))) := ⟨_, rfl⟩
noncomputable def b_is_place : MS := Classical.choose x_b_is_place
theorem e_b_is_place : b_is_place = (mRet (mAnd (mIsiB "tuple" CLS (mVar 0)) (mAnd (mOp mEq (mFn fLen (maCons (mVar 0) maNil)) (mC (.int (2)))) (mAnd (mCall u_is_integer [] (maCons (mOp mIx (mVar 0) (mC (.int (0)))) maNil)) (mCall u_is_integer [] (maCons (mOp mIx (mVar 0) (mC (.int (1)))) maNil)))))) := Classical.choose_spec x_b_is_place
theorem x_u_is_place : ∃ m : Spec, m = body 1 1 b_is_place := ⟨_, rfl⟩
noncomputable def u_is_place : Spec := Classical.choose x_u_is_place
theorem e_u_is_place : u_is_place = body 1 1 b_is_place := Classical.choose_spec x_u_is_place
theorem x_b_check_place : ∃ m : MS, m = (mIfS (mtNot (mtB (mCall u_is_place [] (maCons (mVar 0) maNil)))) (mRaise "InvalidPlace" ["given"] (maCons (mVar 0) maNil)) mNext) := ⟨_, rfl⟩
noncomputable def b_check_place : MS := Classical.choose x_b_check_place
theorem e_b_check_place : b_check_place = (mIfS (mtNot (mtB (mCall u_is_place [] (maCons (mVar 0) maNil)))) (mRaise "InvalidPlace" ["given"] (maCons (mVar 0) maNil)) mNext) := Classical.choose_spec x_b_check_place
theorem x_u_check_place : ∃ m : Spec, m = body 1 1 b_check_place := ⟨_, rfl⟩
noncomputable def u_check_place : Spec := Classical.choose x_u_check_place
theorem e_u_check_place : u_check_place = body 1 1 b_check_place := Classical.choose_spec x_u_check_place
theorem x_b_heading_count : ∃ m : MS, m = (mRet (mFn fLen (maCons (mOp (mIxT "STEPS" tab_STEPS) (mC (.nm "STEPS")) (mVar 0)) maNil))) := ⟨_, rfl⟩
noncomputable def b_heading_count : MS := Classical.choose x_b_heading_count
theorem e_b_heading_count : b_heading_count = (mRet (mFn fLen (maCons (mOp (mIxT "STEPS" tab_STEPS) (mC (.nm "STEPS")) (mVar 0)) maNil))) := Classical.choose_spec x_b_heading_count
theorem x_u_heading_count : ∃ m : Spec, m = body 1 1 b_heading_count := ⟨_, rfl⟩
noncomputable def u_heading_count : Spec := Classical.choose x_u_heading_count
theorem e_u_heading_count : u_heading_count = body 1 1 b_heading_count := Classical.choose_spec x_u_heading_count
theorem x_b_Symmetry_init_1 : ∃ m : MS, m = (mSeq (mSetF "Symmetry" "own_turn" (mVar 0) (mVar 3)) (mSetF "Symmetry" "own_mirrored" (mVar 0) (mVar 4))) := ⟨_, rfl⟩
noncomputable def b_Symmetry_init_1 : MS := Classical.choose x_b_Symmetry_init_1
theorem e_b_Symmetry_init_1 : b_Symmetry_init_1 = (mSeq (mSetF "Symmetry" "own_turn" (mVar 0) (mVar 3)) (mSetF "Symmetry" "own_mirrored" (mVar 0) (mVar 4))) := Classical.choose_spec x_b_Symmetry_init_1
theorem x_b_Symmetry_init_2 : ∃ m : MS, m = (mSeq (mSetF "Symmetry" "own_place" (mVar 0) (mVar 2)) b_Symmetry_init_1) := ⟨_, rfl⟩
noncomputable def b_Symmetry_init_2 : MS := Classical.choose x_b_Symmetry_init_2
theorem e_b_Symmetry_init_2 : b_Symmetry_init_2 = (mSeq (mSetF "Symmetry" "own_place" (mVar 0) (mVar 2)) b_Symmetry_init_1) := Classical.choose_spec x_b_Symmetry_init_2
theorem x_b_Symmetry_init_3 : ∃ m : MS, m = (mSeq (mSetF "Symmetry" "own_net" (mVar 0) (mVar 1)) b_Symmetry_init_2) := ⟨_, rfl⟩
noncomputable def b_Symmetry_init_3 : MS := Classical.choose x_b_Symmetry_init_3
theorem e_b_Symmetry_init_3 : b_Symmetry_init_3 = (mSeq (mSetF "Symmetry" "own_net" (mVar 0) (mVar 1)) b_Symmetry_init_2) := Classical.choose_spec x_b_Symmetry_init_3
theorem x_b_Symmetry_init_4 : ∃ m : MS, m = (mSeq (mIfS (mtNot (mtB (mIsiB "bool" CLS (mVar 4)))) (mRaise "InvalidNumber" ["given"] (maCons (mVar 4) maNil)) mNext) b_Symmetry_init_3) := ⟨_, rfl⟩
noncomputable def b_Symmetry_init_4 : MS := Classical.choose x_b_Symmetry_init_4
theorem e_b_Symmetry_init_4 : b_Symmetry_init_4 = (mSeq (mIfS (mtNot (mtB (mIsiB "bool" CLS (mVar 4)))) (mRaise "InvalidNumber" ["given"] (maCons (mVar 4) maNil)) mNext) b_Symmetry_init_3) := Classical.choose_spec x_b_Symmetry_init_4
theorem x_b_Symmetry_init_5 : ∃ m : MS, m = (mSeq (mIfS (mtOr (mtNot (mtB (mCall u_is_integer [] (maCons (mVar 3) maNil)))) (mtNot (mtB (mChain mLe mLt (mC (.int (0))) (mVar 3) (mCall u_heading_count [] (maCons (mVar 1) maNil)))))) (mRaise "InvalidNumber" ["given"] (maCons (mVar 3) maNil)) mNext) b_Symmetry_init_4) := ⟨_, rfl⟩
noncomputable def b_Symmetry_init_5 : MS := Classical.choose x_b_Symmetry_init_5
theorem e_b_Symmetry_init_5 : b_Symmetry_init_5 = (mSeq (mIfS (mtOr (mtNot (mtB (mCall u_is_integer [] (maCons (mVar 3) maNil)))) (mtNot (mtB (mChain mLe mLt (mC (.int (0))) (mVar 3) (mCall u_heading_count [] (maCons (mVar 1) maNil)))))) (mRaise "InvalidNumber" ["given"] (maCons (mVar 3) maNil)) mNext) b_Symmetry_init_4) := Classical.choose_spec x_b_Symmetry_init_5
theorem x_b_Symmetry_init_6 : ∃ m : MS, m = (mSeq (mExpr (mCall u_check_place [] (maCons (mVar 2) maNil))) b_Symmetry_init_5) := ⟨_, rfl⟩
noncomputable def b_Symmetry_init_6 : MS := Classical.choose x_b_Symmetry_init_6
theorem e_b_Symmetry_init_6 : b_Symmetry_init_6 = (mSeq (mExpr (mCall u_check_place [] (maCons (mVar 2) maNil))) b_Symmetry_init_5) := Classical.choose_spec x_b_Symmetry_init_6
theorem x_b_Symmetry_init : ∃ m : MS, m = (mSeq (mExpr (mCall u_check_net [] (maCons (mVar 1) maNil))) b_Symmetry_init_6) := ⟨_, rfl⟩
noncomputable def b_Symmetry_init : MS := Classical.choose x_b_Symmetry_init
theorem e_b_Symmetry_init : b_Symmetry_init = (mSeq (mExpr (mCall u_check_net [] (maCons (mVar 1) maNil))) b_Symmetry_init_6) := Classical.choose_spec x_b_Symmetry_init
theorem x_u_Symmetry_init : ∃ m : Spec, m = body 5 5 b_Symmetry_init := ⟨_, rfl⟩
noncomputable def u_Symmetry_init : Spec := Classical.choose x_u_Symmetry_init
theorem e_u_Symmetry_init : u_Symmetry_init = body 5 5 b_Symmetry_init := Classical.choose_spec x_u_Symmetry_init
theorem x_b__law_made : ∃ m : MS, m = (mRet (mMake "Symmetry" u_Symmetry_init [] (maCons (mVar 0) (maCons (mOp mIx (mVar 1) (mC (.int (0)))) (maCons (mOp mIx (mVar 1) (mC (.int (1)))) (maCons (mOp mIx (mVar 1) (mC (.int (2)))) maNil)))))) := ⟨_, rfl⟩
noncomputable def b__law_made : MS := Classical.choose x_b__law_made
theorem e_b__law_made : b__law_made = (mRet (mMake "Symmetry" u_Symmetry_init [] (maCons (mVar 0) (maCons (mOp mIx (mVar 1) (mC (.int (0)))) (maCons (mOp mIx (mVar 1) (mC (.int (1)))) (maCons (mOp mIx (mVar 1) (mC (.int (2)))) maNil)))))) := Classical.choose_spec x_b__law_made
theorem x_u__law_made : ∃ m : Spec, m = body 2 2 b__law_made := ⟨_, rfl⟩
noncomputable def u__law_made : Spec := Classical.choose x_u__law_made
theorem e_u__law_made : u__law_made = body 2 2 b__law_made := Classical.choose_spec x_u__law_made
theorem x_b_Symmetry_net : ∃ m : MS, m = (mRet (mFld "Symmetry" "own_net" (mVar 0))) := ⟨_, rfl⟩
noncomputable def b_Symmetry_net : MS := Classical.choose x_b_Symmetry_net
theorem e_b_Symmetry_net : b_Symmetry_net = (mRet (mFld "Symmetry" "own_net" (mVar 0))) := Classical.choose_spec x_b_Symmetry_net
theorem x_u_Symmetry_net : ∃ m : Spec, m = body 1 1 b_Symmetry_net := ⟨_, rfl⟩
noncomputable def u_Symmetry_net : Spec := Classical.choose x_u_Symmetry_net
theorem e_u_Symmetry_net : u_Symmetry_net = body 1 1 b_Symmetry_net := Classical.choose_spec x_u_Symmetry_net
theorem x_b_Symmetry_place : ∃ m : MS, m = (mRet (mFld "Symmetry" "own_place" (mVar 0))) := ⟨_, rfl⟩
noncomputable def b_Symmetry_place : MS := Classical.choose x_b_Symmetry_place
theorem e_b_Symmetry_place : b_Symmetry_place = (mRet (mFld "Symmetry" "own_place" (mVar 0))) := Classical.choose_spec x_b_Symmetry_place
theorem x_u_Symmetry_place : ∃ m : Spec, m = body 1 1 b_Symmetry_place := ⟨_, rfl⟩
noncomputable def u_Symmetry_place : Spec := Classical.choose x_u_Symmetry_place
theorem e_u_Symmetry_place : u_Symmetry_place = body 1 1 b_Symmetry_place := Classical.choose_spec x_u_Symmetry_place
theorem x_b_Symmetry_turn : ∃ m : MS, m = (mRet (mFld "Symmetry" "own_turn" (mVar 0))) := ⟨_, rfl⟩
noncomputable def b_Symmetry_turn : MS := Classical.choose x_b_Symmetry_turn
theorem e_b_Symmetry_turn : b_Symmetry_turn = (mRet (mFld "Symmetry" "own_turn" (mVar 0))) := Classical.choose_spec x_b_Symmetry_turn
theorem x_u_Symmetry_turn : ∃ m : Spec, m = body 1 1 b_Symmetry_turn := ⟨_, rfl⟩
noncomputable def u_Symmetry_turn : Spec := Classical.choose x_u_Symmetry_turn
theorem e_u_Symmetry_turn : u_Symmetry_turn = body 1 1 b_Symmetry_turn := Classical.choose_spec x_u_Symmetry_turn
theorem x_b_Symmetry_mirrored : ∃ m : MS, m = (mRet (mFld "Symmetry" "own_mirrored" (mVar 0))) := ⟨_, rfl⟩
noncomputable def b_Symmetry_mirrored : MS := Classical.choose x_b_Symmetry_mirrored
theorem e_b_Symmetry_mirrored : b_Symmetry_mirrored = (mRet (mFld "Symmetry" "own_mirrored" (mVar 0))) := Classical.choose_spec x_b_Symmetry_mirrored
theorem x_u_Symmetry_mirrored : ∃ m : Spec, m = body 1 1 b_Symmetry_mirrored := ⟨_, rfl⟩
noncomputable def u_Symmetry_mirrored : Spec := Classical.choose x_u_Symmetry_mirrored
theorem e_u_Symmetry_mirrored : u_Symmetry_mirrored = body 1 1 b_Symmetry_mirrored := Classical.choose_spec x_u_Symmetry_mirrored
theorem x_b_Symmetry_bool : ∃ m : MS, m = (mRet (mFn fBool (maCons (mOrT (mFld "Symmetry" "own_mirrored" (mVar 0)) (mOrT (mFld "Symmetry" "own_turn" (mVar 0)) (mOrT (mOp mIx (mFld "Symmetry" "own_place" (mVar 0)) (mC (.int (0)))) (mOp mIx (mFld "Symmetry" "own_place" (mVar 0)) (mC (.int (1))))))) maNil))) := ⟨_, rfl⟩
noncomputable def b_Symmetry_bool : MS := Classical.choose x_b_Symmetry_bool
theorem e_b_Symmetry_bool : b_Symmetry_bool = (mRet (mFn fBool (maCons (mOrT (mFld "Symmetry" "own_mirrored" (mVar 0)) (mOrT (mFld "Symmetry" "own_turn" (mVar 0)) (mOrT (mOp mIx (mFld "Symmetry" "own_place" (mVar 0)) (mC (.int (0)))) (mOp mIx (mFld "Symmetry" "own_place" (mVar 0)) (mC (.int (1))))))) maNil))) := Classical.choose_spec x_b_Symmetry_bool
theorem x_u_Symmetry_bool : ∃ m : Spec, m = body 1 1 b_Symmetry_bool := ⟨_, rfl⟩
noncomputable def u_Symmetry_bool : Spec := Classical.choose x_u_Symmetry_bool
theorem e_u_Symmetry_bool : u_Symmetry_bool = body 1 1 b_Symmetry_bool := Classical.choose_spec x_u_Symmetry_bool
theorem x_b_scaled : ∃ m : MS, m = (mRet (mTup (maCons (mOp mMul (mOp mIx (mVar 0) (mC (.int (0)))) (mVar 1)) (maCons (mOp mMul (mOp mIx (mVar 0) (mC (.int (1)))) (mVar 1)) maNil)))) := ⟨_, rfl⟩
noncomputable def b_scaled : MS := Classical.choose x_b_scaled
theorem e_b_scaled : b_scaled = (mRet (mTup (maCons (mOp mMul (mOp mIx (mVar 0) (mC (.int (0)))) (mVar 1)) (maCons (mOp mMul (mOp mIx (mVar 0) (mC (.int (1)))) (mVar 1)) maNil)))) := Classical.choose_spec x_b_scaled
theorem x_u_scaled : ∃ m : Spec, m = body 2 2 b_scaled := ⟨_, rfl⟩
noncomputable def u_scaled : Spec := Classical.choose x_u_scaled
theorem e_u_scaled : u_scaled = body 2 2 b_scaled := Classical.choose_spec x_u_scaled
theorem x_b_flipped : ∃ m : MS, m = (mSeq (mAsg (mVar 1) (gmTup 2 (gmCons (gmName 2) (gmCons (gmName 3) gmNil)))) (mRet (mIf (mtB (mOp mEq (mVar 0) (mC (.str "square")))) (mTup (maCons (mVar 2) (maCons (mNeg (mVar 3)) maNil))) (mTup (maCons (mOp mAdd (mVar 2) (mVar 3)) (maCons (mNeg (mVar 3)) maNil)))))) := ⟨_, rfl⟩
noncomputable def b_flipped : MS := Classical.choose x_b_flipped
theorem e_b_flipped : b_flipped = (mSeq (mAsg (mVar 1) (gmTup 2 (gmCons (gmName 2) (gmCons (gmName 3) gmNil)))) (mRet (mIf (mtB (mOp mEq (mVar 0) (mC (.str "square")))) (mTup (maCons (mVar 2) (maCons (mNeg (mVar 3)) maNil))) (mTup (maCons (mOp mAdd (mVar 2) (mVar 3)) (maCons (mNeg (mVar 3)) maNil)))))) := Classical.choose_spec x_b_flipped
theorem x_u_flipped : ∃ m : Spec, m = body 2 4 b_flipped := ⟨_, rfl⟩
noncomputable def u_flipped : Spec := Classical.choose x_u_flipped
theorem e_u_flipped : u_flipped = body 2 4 b_flipped := Classical.choose_spec x_u_flipped
theorem x_b_turned_1 : ∃ m : MS, m = (mAsg (mIf (mtB (mOp mEq (mVar 0) (mC (.str "square")))) (mTup (maCons (mNeg (mVar 4)) (maCons (mVar 3) maNil))) (mTup (maCons (mNeg (mVar 4)) (maCons (mOp mAdd (mVar 3) (mVar 4)) maNil)))) (gmTup 2 (gmCons (gmName 3) (gmCons (gmName 4) gmNil)))) := ⟨_, rfl⟩
noncomputable def b_turned_1 : MS := Classical.choose x_b_turned_1
theorem e_b_turned_1 : b_turned_1 = (mAsg (mIf (mtB (mOp mEq (mVar 0) (mC (.str "square")))) (mTup (maCons (mNeg (mVar 4)) (maCons (mVar 3) maNil))) (mTup (maCons (mNeg (mVar 4)) (maCons (mOp mAdd (mVar 3) (mVar 4)) maNil)))) (gmTup 2 (gmCons (gmName 3) (gmCons (gmName 4) gmNil)))) := Classical.choose_spec x_b_turned_1
theorem x_b_turned_2 : ∃ m : MS, m = (mSeq (mFor (miRange1 (maCons (mVar 2) maNil)) (gmName 5) b_turned_1) (mRet (mTup (maCons (mVar 3) (maCons (mVar 4) maNil))))) := ⟨_, rfl⟩
noncomputable def b_turned_2 : MS := Classical.choose x_b_turned_2
theorem e_b_turned_2 : b_turned_2 = (mSeq (mFor (miRange1 (maCons (mVar 2) maNil)) (gmName 5) b_turned_1) (mRet (mTup (maCons (mVar 3) (maCons (mVar 4) maNil))))) := Classical.choose_spec x_b_turned_2
theorem x_b_turned : ∃ m : MS, m = (mSeq (mAsg (mVar 1) (gmTup 2 (gmCons (gmName 3) (gmCons (gmName 4) gmNil)))) b_turned_2) := ⟨_, rfl⟩
noncomputable def b_turned : MS := Classical.choose x_b_turned
theorem e_b_turned : b_turned = (mSeq (mAsg (mVar 1) (gmTup 2 (gmCons (gmName 3) (gmCons (gmName 4) gmNil)))) b_turned_2) := Classical.choose_spec x_b_turned
theorem x_u_turned : ∃ m : Spec, m = body 3 6 b_turned := ⟨_, rfl⟩
noncomputable def u_turned : Spec := Classical.choose x_u_turned
theorem e_u_turned : u_turned = body 3 6 b_turned := Classical.choose_spec x_u_turned
theorem x_b_linear : ∃ m : MS, m = (mRet (mCall u_turned [] (maCons (mVar 0) (maCons (mIf (mtT (mVar 2)) (mCall u_flipped [] (maCons (mVar 0) (maCons (mVar 3) maNil))) (mVar 3)) (maCons (mVar 1) maNil))))) := ⟨_, rfl⟩
noncomputable def b_linear : MS := Classical.choose x_b_linear
theorem e_b_linear : b_linear = (mRet (mCall u_turned [] (maCons (mVar 0) (maCons (mIf (mtT (mVar 2)) (mCall u_flipped [] (maCons (mVar 0) (maCons (mVar 3) maNil))) (mVar 3)) (maCons (mVar 1) maNil))))) := Classical.choose_spec x_b_linear
theorem x_u_linear : ∃ m : Spec, m = body 4 4 b_linear := ⟨_, rfl⟩
noncomputable def u_linear : Spec := Classical.choose x_u_linear
theorem e_u_linear : u_linear = body 4 4 b_linear := Classical.choose_spec x_u_linear
theorem x_b_Symmetry_invert_1 : ∃ m : MS, m = (mSeq (mAsg (mCall u_linear [] (maCons (mFld "Symmetry" "own_net" (mVar 0)) (maCons (mVar 1) (maCons (mFld "Symmetry" "own_mirrored" (mVar 0)) (maCons (mCall u_scaled [] (maCons (mFld "Symmetry" "own_place" (mVar 0)) (maCons (mNeg (mC (.int (1)))) maNil))) maNil))))) (gmName 2)) (mRet (mMake "Symmetry" u_Symmetry_init [] (maCons (mFld "Symmetry" "own_net" (mVar 0)) (maCons (mVar 2) (maCons (mVar 1) (maCons (mFld "Symmetry" "own_mirrored" (mVar 0)) maNil))))))) := ⟨_, rfl⟩
noncomputable def b_Symmetry_invert_1 : MS := Classical.choose x_b_Symmetry_invert_1
theorem e_b_Symmetry_invert_1 : b_Symmetry_invert_1 = (mSeq (mAsg (mCall u_linear [] (maCons (mFld "Symmetry" "own_net" (mVar 0)) (maCons (mVar 1) (maCons (mFld "Symmetry" "own_mirrored" (mVar 0)) (maCons (mCall u_scaled [] (maCons (mFld "Symmetry" "own_place" (mVar 0)) (maCons (mNeg (mC (.int (1)))) maNil))) maNil))))) (gmName 2)) (mRet (mMake "Symmetry" u_Symmetry_init [] (maCons (mFld "Symmetry" "own_net" (mVar 0)) (maCons (mVar 2) (maCons (mVar 1) (maCons (mFld "Symmetry" "own_mirrored" (mVar 0)) maNil))))))) := Classical.choose_spec x_b_Symmetry_invert_1
theorem x_b_Symmetry_invert : ∃ m : MS, m = (mSeq (mAsg (mIf (mtT (mFld "Symmetry" "own_mirrored" (mVar 0))) (mFld "Symmetry" "own_turn" (mVar 0)) (mOp mMod (mNeg (mFld "Symmetry" "own_turn" (mVar 0))) (mCall u_heading_count [] (maCons (mFld "Symmetry" "own_net" (mVar 0)) maNil)))) (gmName 1)) b_Symmetry_invert_1) := ⟨_, rfl⟩
noncomputable def b_Symmetry_invert : MS := Classical.choose x_b_Symmetry_invert
theorem e_b_Symmetry_invert : b_Symmetry_invert = (mSeq (mAsg (mIf (mtT (mFld "Symmetry" "own_mirrored" (mVar 0))) (mFld "Symmetry" "own_turn" (mVar 0)) (mOp mMod (mNeg (mFld "Symmetry" "own_turn" (mVar 0))) (mCall u_heading_count [] (maCons (mFld "Symmetry" "own_net" (mVar 0)) maNil)))) (gmName 1)) b_Symmetry_invert_1) := Classical.choose_spec x_b_Symmetry_invert
theorem x_u_Symmetry_invert : ∃ m : Spec, m = body 1 3 b_Symmetry_invert := ⟨_, rfl⟩
noncomputable def u_Symmetry_invert : Spec := Classical.choose x_u_Symmetry_invert
theorem e_u_Symmetry_invert : u_Symmetry_invert = body 1 3 b_Symmetry_invert := Classical.choose_spec x_u_Symmetry_invert
theorem x_b_added : ∃ m : MS, m = (mRet (mTup (maCons (mOp mAdd (mOp mIx (mVar 0) (mC (.int (0)))) (mOp mIx (mVar 1) (mC (.int (0))))) (maCons (mOp mAdd (mOp mIx (mVar 0) (mC (.int (1)))) (mOp mIx (mVar 1) (mC (.int (1))))) maNil)))) := ⟨_, rfl⟩
noncomputable def b_added : MS := Classical.choose x_b_added
theorem e_b_added : b_added = (mRet (mTup (maCons (mOp mAdd (mOp mIx (mVar 0) (mC (.int (0)))) (mOp mIx (mVar 1) (mC (.int (0))))) (maCons (mOp mAdd (mOp mIx (mVar 0) (mC (.int (1)))) (mOp mIx (mVar 1) (mC (.int (1))))) maNil)))) := Classical.choose_spec x_b_added
theorem x_u_added : ∃ m : Spec, m = body 2 2 b_added := ⟨_, rfl⟩
noncomputable def u_added : Spec := Classical.choose x_u_added
theorem e_u_added : u_added = body 2 2 b_added := Classical.choose_spec x_u_added
theorem x_b_Symmetry_moved : ∃ m : MS, m = (mRet (mCall u_added [] (maCons (mFld "Symmetry" "own_place" (mVar 0)) (maCons (mCall u_linear [] (maCons (mFld "Symmetry" "own_net" (mVar 0)) (maCons (mFld "Symmetry" "own_turn" (mVar 0)) (maCons (mFld "Symmetry" "own_mirrored" (mVar 0)) (maCons (mVar 1) maNil))))) maNil)))) := ⟨_, rfl⟩
noncomputable def b_Symmetry_moved : MS := Classical.choose x_b_Symmetry_moved
theorem e_b_Symmetry_moved : b_Symmetry_moved = (mRet (mCall u_added [] (maCons (mFld "Symmetry" "own_place" (mVar 0)) (maCons (mCall u_linear [] (maCons (mFld "Symmetry" "own_net" (mVar 0)) (maCons (mFld "Symmetry" "own_turn" (mVar 0)) (maCons (mFld "Symmetry" "own_mirrored" (mVar 0)) (maCons (mVar 1) maNil))))) maNil)))) := Classical.choose_spec x_b_Symmetry_moved
theorem x_u_Symmetry_moved : ∃ m : Spec, m = body 2 2 b_Symmetry_moved := ⟨_, rfl⟩
noncomputable def u_Symmetry_moved : Spec := Classical.choose x_u_Symmetry_moved
theorem e_u_Symmetry_moved : u_Symmetry_moved = body 2 2 b_Symmetry_moved := Classical.choose_spec x_u_Symmetry_moved
theorem x_b_Symmetry_call : ∃ m : MS, m = (mSeq (mExpr (mCall u_check_place [] (maCons (mVar 1) maNil))) (mRet (mMeth "Symmetry" "moved" u_Symmetry_moved [] (mVar 0) (maCons (mVar 1) maNil)))) := ⟨_, rfl⟩
noncomputable def b_Symmetry_call : MS := Classical.choose x_b_Symmetry_call
theorem e_b_Symmetry_call : b_Symmetry_call = (mSeq (mExpr (mCall u_check_place [] (maCons (mVar 1) maNil))) (mRet (mMeth "Symmetry" "moved" u_Symmetry_moved [] (mVar 0) (maCons (mVar 1) maNil)))) := Classical.choose_spec x_b_Symmetry_call
theorem x_u_Symmetry_call : ∃ m : Spec, m = body 2 2 b_Symmetry_call := ⟨_, rfl⟩
noncomputable def u_Symmetry_call : Spec := Classical.choose x_u_Symmetry_call
theorem e_u_Symmetry_call : u_Symmetry_call = body 2 2 b_Symmetry_call := Classical.choose_spec x_u_Symmetry_call
theorem x_b__law_flip : ∃ m : MS, m = (mRet (mIf (mtB (mOp mEq (mVar 0) (mC (.str "square")))) (mTup (maCons (mOp mIx (mVar 1) (mC (.int (0)))) (maCons (mOp mSub (mC (.int (0))) (mOp mIx (mVar 1) (mC (.int (1))))) maNil))) (mTup (maCons (mOp mAdd (mOp mIx (mVar 1) (mC (.int (0)))) (mOp mIx (mVar 1) (mC (.int (1))))) (maCons (mOp mSub (mC (.int (0))) (mOp mIx (mVar 1) (mC (.int (1))))) maNil))))) := ⟨_, rfl⟩
noncomputable def b__law_flip : MS := Classical.choose x_b__law_flip
theorem e_b__law_flip : b__law_flip = (mRet (mIf (mtB (mOp mEq (mVar 0) (mC (.str "square")))) (mTup (maCons (mOp mIx (mVar 1) (mC (.int (0)))) (maCons (mOp mSub (mC (.int (0))) (mOp mIx (mVar 1) (mC (.int (1))))) maNil))) (mTup (maCons (mOp mAdd (mOp mIx (mVar 1) (mC (.int (0)))) (mOp mIx (mVar 1) (mC (.int (1))))) (maCons (mOp mSub (mC (.int (0))) (mOp mIx (mVar 1) (mC (.int (1))))) maNil))))) := Classical.choose_spec x_b__law_flip
theorem x_u__law_flip : ∃ m : Spec, m = body 2 2 b__law_flip := ⟨_, rfl⟩
noncomputable def u__law_flip : Spec := Classical.choose x_u__law_flip
theorem e_u__law_flip : u__law_flip = body 2 2 b__law_flip := Classical.choose_spec x_u__law_flip
theorem x_b__law_rotated_1 : ∃ m : MS, m = (mPar 3 4 (mOp mSub (mC (.int (0))) (mVar 4)) (mOp mAdd (mVar 3) (mOp mMul (mVar 4) (mFn fInt (maCons (mOp mEq (mVar 0) (mC (.str "triangle"))) maNil))))) := ⟨_, rfl⟩
noncomputable def b__law_rotated_1 : MS := Classical.choose x_b__law_rotated_1
theorem e_b__law_rotated_1 : b__law_rotated_1 = (mPar 3 4 (mOp mSub (mC (.int (0))) (mVar 4)) (mOp mAdd (mVar 3) (mOp mMul (mVar 4) (mFn fInt (maCons (mOp mEq (mVar 0) (mC (.str "triangle"))) maNil))))) := Classical.choose_spec x_b__law_rotated_1
theorem x_b__law_rotated_2 : ∃ m : MS, m = (mSeq (mFor (miRange1 (maCons (mOp mMod (mVar 2) (mFn fLen (maCons (mCall u__law_steps [] (maCons (mVar 0) maNil)) maNil))) maNil)) (gmName 5) b__law_rotated_1) (mRet (mTup (maCons (mVar 3) (maCons (mVar 4) maNil))))) := ⟨_, rfl⟩
noncomputable def b__law_rotated_2 : MS := Classical.choose x_b__law_rotated_2
theorem e_b__law_rotated_2 : b__law_rotated_2 = (mSeq (mFor (miRange1 (maCons (mOp mMod (mVar 2) (mFn fLen (maCons (mCall u__law_steps [] (maCons (mVar 0) maNil)) maNil))) maNil)) (gmName 5) b__law_rotated_1) (mRet (mTup (maCons (mVar 3) (maCons (mVar 4) maNil))))) := Classical.choose_spec x_b__law_rotated_2
theorem x_b__law_rotated : ∃ m : MS, m = (mSeq (mAsg (mVar 1) (gmTup 2 (gmCons (gmName 3) (gmCons (gmName 4) gmNil)))) b__law_rotated_2) := ⟨_, rfl⟩
noncomputable def b__law_rotated : MS := Classical.choose x_b__law_rotated
theorem e_b__law_rotated : b__law_rotated = (mSeq (mAsg (mVar 1) (gmTup 2 (gmCons (gmName 3) (gmCons (gmName 4) gmNil)))) b__law_rotated_2) := Classical.choose_spec x_b__law_rotated
theorem x_u__law_rotated : ∃ m : Spec, m = body 3 6 b__law_rotated := ⟨_, rfl⟩
noncomputable def u__law_rotated : Spec := Classical.choose x_u__law_rotated
theorem e_u__law_rotated : u__law_rotated = body 3 6 b__law_rotated := Classical.choose_spec x_u__law_rotated
theorem x_b__law_taken_1 : ∃ m : MS, m = (mSeq (mAsg (mCall u__law_rotated [] (maCons (mVar 0) (maCons (mIf (mtT (mVar 5)) (mCall u__law_flip [] (maCons (mVar 0) (maCons (mVar 2) maNil))) (mVar 2)) (maCons (mVar 4) maNil)))) (gmTup 2 (gmCons (gmName 6) (gmCons (gmName 7) gmNil)))) (mRet (mTup (maCons (mOp mAdd (mVar 6) (mOp mIx (mVar 3) (mC (.int (0))))) (maCons (mOp mAdd (mVar 7) (mOp mIx (mVar 3) (mC (.int (1))))) maNil))))) := ⟨_, rfl⟩
noncomputable def b__law_taken_1 : MS := Classical.choose x_b__law_taken_1
theorem e_b__law_taken_1 : b__law_taken_1 = (mSeq (mAsg (mCall u__law_rotated [] (maCons (mVar 0) (maCons (mIf (mtT (mVar 5)) (mCall u__law_flip [] (maCons (mVar 0) (maCons (mVar 2) maNil))) (mVar 2)) (maCons (mVar 4) maNil)))) (gmTup 2 (gmCons (gmName 6) (gmCons (gmName 7) gmNil)))) (mRet (mTup (maCons (mOp mAdd (mVar 6) (mOp mIx (mVar 3) (mC (.int (0))))) (maCons (mOp mAdd (mVar 7) (mOp mIx (mVar 3) (mC (.int (1))))) maNil))))) := Classical.choose_spec x_b__law_taken_1
theorem x_b__law_taken : ∃ m : MS, m = (mSeq (mAsg (mVar 1) (gmUnl 3 (gmCons (gmName 3) (gmCons (gmName 4) (gmCons (gmName 5) gmNil))))) b__law_taken_1) := ⟨_, rfl⟩
noncomputable def b__law_taken : MS := Classical.choose x_b__law_taken
theorem e_b__law_taken : b__law_taken = (mSeq (mAsg (mVar 1) (gmUnl 3 (gmCons (gmName 3) (gmCons (gmName 4) (gmCons (gmName 5) gmNil))))) b__law_taken_1) := Classical.choose_spec x_b__law_taken
theorem x_u__law_taken : ∃ m : Spec, m = body 3 8 b__law_taken := ⟨_, rfl⟩
noncomputable def u__law_taken : Spec := Classical.choose x_u__law_taken
theorem e_u__law_taken : u__law_taken = body 3 8 b__law_taken := Classical.choose_spec x_u__law_taken
theorem x_b__law_next : ∃ m : MS, m = (mSeq (mAsg (mOp mIx (mCall u__law_steps [] (maCons (mVar 0) maNil)) (mOp mMod (mVar 2) (mFn fLen (maCons (mCall u__law_steps [] (maCons (mVar 0) maNil)) maNil)))) (gmName 3)) (mRet (mTup (maCons (mOp mAdd (mOp mIx (mVar 1) (mC (.int (0)))) (mOp mIx (mVar 3) (mC (.int (0))))) (maCons (mOp mAdd (mOp mIx (mVar 1) (mC (.int (1)))) (mOp mIx (mVar 3) (mC (.int (1))))) maNil))))) := ⟨_, rfl⟩
noncomputable def b__law_next : MS := Classical.choose x_b__law_next
theorem e_b__law_next : b__law_next = (mSeq (mAsg (mOp mIx (mCall u__law_steps [] (maCons (mVar 0) maNil)) (mOp mMod (mVar 2) (mFn fLen (maCons (mCall u__law_steps [] (maCons (mVar 0) maNil)) maNil)))) (gmName 3)) (mRet (mTup (maCons (mOp mAdd (mOp mIx (mVar 1) (mC (.int (0)))) (mOp mIx (mVar 3) (mC (.int (0))))) (maCons (mOp mAdd (mOp mIx (mVar 1) (mC (.int (1)))) (mOp mIx (mVar 3) (mC (.int (1))))) maNil))))) := Classical.choose_spec x_b__law_next
theorem x_u__law_next : ∃ m : Spec, m = body 3 4 b__law_next := ⟨_, rfl⟩
noncomputable def u__law_next : Spec := Classical.choose x_u__law_next
theorem e_u__law_next : u__law_next = body 3 4 b__law_next := Classical.choose_spec x_u__law_next
theorem x_b__law_one_right_1 : ∃ m : MS, m = (mIfS (mtB (mOp mEq (mComp (miRange1 (maCons (mFn fLen (maCons (mCall u__law_steps [] (maCons (mVar 0) maNil)) maNil)) maNil)) [9] (gmName 9) (mtB (mOp mEq (mCall u__law_next [] (maCons (mVar 0) (maCons (mVar 6) (maCons (mVar 9) maNil)))) (mVar 7))) (mVar 9)) (mLst maNil))) (mRet (mC (.bl false))) mNext) := ⟨_, rfl⟩
noncomputable def b__law_one_right_1 : MS := Classical.choose x_b__law_one_right_1
theorem e_b__law_one_right_1 : b__law_one_right_1 = (mIfS (mtB (mOp mEq (mComp (miRange1 (maCons (mFn fLen (maCons (mCall u__law_steps [] (maCons (mVar 0) maNil)) maNil)) maNil)) [9] (gmName 9) (mtB (mOp mEq (mCall u__law_next [] (maCons (mVar 0) (maCons (mVar 6) (maCons (mVar 9) maNil)))) (mVar 7))) (mVar 9)) (mLst maNil))) (mRet (mC (.bl false))) mNext) := Classical.choose_spec x_b__law_one_right_1
theorem x_b__law_one_right_2 : ∃ m : MS, m = (mSeq (mAsg (mTup (maCons (mCallO "Symmetry" u_Symmetry_call (mVar 3) (maCons (mOp mIx (mVar 2) (mVar 5)) maNil)) (maCons (mCallO "Symmetry" u_Symmetry_call (mVar 3) (maCons (mCall u__law_next [] (maCons (mVar 0) (maCons (mOp mIx (mVar 2) (mVar 5)) (maCons (mVar 5) maNil)))) maNil)) maNil))) (gmTup 2 (gmCons (gmName 6) (gmCons (gmName 7) gmNil)))) b__law_one_right_1) := ⟨_, rfl⟩
noncomputable def b__law_one_right_2 : MS := Classical.choose x_b__law_one_right_2
theorem e_b__law_one_right_2 : b__law_one_right_2 = (mSeq (mAsg (mTup (maCons (mCallO "Symmetry" u_Symmetry_call (mVar 3) (maCons (mOp mIx (mVar 2) (mVar 5)) maNil)) (maCons (mCallO "Symmetry" u_Symmetry_call (mVar 3) (maCons (mCall u__law_next [] (maCons (mVar 0) (maCons (mOp mIx (mVar 2) (mVar 5)) (maCons (mVar 5) maNil)))) maNil)) maNil))) (gmTup 2 (gmCons (gmName 6) (gmCons (gmName 7) gmNil)))) b__law_one_right_1) := Classical.choose_spec x_b__law_one_right_2
theorem x_b__law_one_right_3 : ∃ m : MS, m = (mSeq (mIfS (mtOr (mtB (mOp mNe (mCallO "Symmetry" u_Symmetry_call (mVar 3) (maCons (mOp mIx (mVar 2) (mVar 5)) maNil)) (mCall u__law_taken [] (maCons (mVar 0) (maCons (mVar 1) (maCons (mOp mIx (mVar 2) (mVar 5)) maNil)))))) (mtB (mOp mNe (mCallO "Symmetry" u_Symmetry_call (mVar 4) (maCons (mCallO "Symmetry" u_Symmetry_call (mVar 3) (maCons (mOp mIx (mVar 2) (mVar 5)) maNil)) maNil)) (mOp mIx (mVar 2) (mVar 5))))) (mRet (mC (.bl false))) mNext) b__law_one_right_2) := ⟨_, rfl⟩
noncomputable def b__law_one_right_3 : MS := Classical.choose x_b__law_one_right_3
theorem e_b__law_one_right_3 : b__law_one_right_3 = (mSeq (mIfS (mtOr (mtB (mOp mNe (mCallO "Symmetry" u_Symmetry_call (mVar 3) (maCons (mOp mIx (mVar 2) (mVar 5)) maNil)) (mCall u__law_taken [] (maCons (mVar 0) (maCons (mVar 1) (maCons (mOp mIx (mVar 2) (mVar 5)) maNil)))))) (mtB (mOp mNe (mCallO "Symmetry" u_Symmetry_call (mVar 4) (maCons (mCallO "Symmetry" u_Symmetry_call (mVar 3) (maCons (mOp mIx (mVar 2) (mVar 5)) maNil)) maNil)) (mOp mIx (mVar 2) (mVar 5))))) (mRet (mC (.bl false))) mNext) b__law_one_right_2) := Classical.choose_spec x_b__law_one_right_3
theorem x_b_Symmetry_mul_1 : ∃ m : MS, m = (mRaise "NetMismatch" ["first", "second"] (maCons (mFld "Symmetry" "own_net" (mVar 0)) (maCons (mFld "Symmetry" "own_net" (mVar 1)) maNil))) := ⟨_, rfl⟩
noncomputable def b_Symmetry_mul_1 : MS := Classical.choose x_b_Symmetry_mul_1
theorem e_b_Symmetry_mul_1 : b_Symmetry_mul_1 = (mRaise "NetMismatch" ["first", "second"] (maCons (mFld "Symmetry" "own_net" (mVar 0)) (maCons (mFld "Symmetry" "own_net" (mVar 1)) maNil))) := Classical.choose_spec x_b_Symmetry_mul_1
theorem x_b_Symmetry_mul_2 : ∃ m : MS, m = (mSeq (mAsg (mOp mNe (mFld "Symmetry" "own_mirrored" (mVar 0)) (mFld "Symmetry" "own_mirrored" (mVar 1))) (gmName 3)) (mRet (mMake "Symmetry" u_Symmetry_init [] (maCons (mFld "Symmetry" "own_net" (mVar 0)) (maCons (mMeth "Symmetry" "moved" u_Symmetry_moved [] (mVar 1) (maCons (mFld "Symmetry" "own_place" (mVar 0)) maNil)) (maCons (mOp mMod (mVar 2) (mCall u_heading_count [] (maCons (mFld "Symmetry" "own_net" (mVar 0)) maNil))) (maCons (mVar 3) maNil))))))) := ⟨_, rfl⟩
noncomputable def b_Symmetry_mul_2 : MS := Classical.choose x_b_Symmetry_mul_2
theorem e_b_Symmetry_mul_2 : b_Symmetry_mul_2 = (mSeq (mAsg (mOp mNe (mFld "Symmetry" "own_mirrored" (mVar 0)) (mFld "Symmetry" "own_mirrored" (mVar 1))) (gmName 3)) (mRet (mMake "Symmetry" u_Symmetry_init [] (maCons (mFld "Symmetry" "own_net" (mVar 0)) (maCons (mMeth "Symmetry" "moved" u_Symmetry_moved [] (mVar 1) (maCons (mFld "Symmetry" "own_place" (mVar 0)) maNil)) (maCons (mOp mMod (mVar 2) (mCall u_heading_count [] (maCons (mFld "Symmetry" "own_net" (mVar 0)) maNil))) (maCons (mVar 3) maNil))))))) := Classical.choose_spec x_b_Symmetry_mul_2
theorem x_b_Symmetry_mul_3 : ∃ m : MS, m = (mSeq (mAsg (mOp mAdd (mFld "Symmetry" "own_turn" (mVar 1)) (mIf (mtT (mFld "Symmetry" "own_mirrored" (mVar 1))) (mNeg (mFld "Symmetry" "own_turn" (mVar 0))) (mFld "Symmetry" "own_turn" (mVar 0)))) (gmName 2)) b_Symmetry_mul_2) := ⟨_, rfl⟩
noncomputable def b_Symmetry_mul_3 : MS := Classical.choose x_b_Symmetry_mul_3
theorem e_b_Symmetry_mul_3 : b_Symmetry_mul_3 = (mSeq (mAsg (mOp mAdd (mFld "Symmetry" "own_turn" (mVar 1)) (mIf (mtT (mFld "Symmetry" "own_mirrored" (mVar 1))) (mNeg (mFld "Symmetry" "own_turn" (mVar 0))) (mFld "Symmetry" "own_turn" (mVar 0)))) (gmName 2)) b_Symmetry_mul_2) := Classical.choose_spec x_b_Symmetry_mul_3
theorem x_b_Symmetry_mul_4 : ∃ m : MS, m = (mSeq (mIfS (mtB (mOp mNe (mFld "Symmetry" "own_net" (mVar 0)) (mFld "Symmetry" "own_net" (mVar 1)))) b_Symmetry_mul_1 mNext) b_Symmetry_mul_3) := ⟨_, rfl⟩
noncomputable def b_Symmetry_mul_4 : MS := Classical.choose x_b_Symmetry_mul_4
theorem e_b_Symmetry_mul_4 : b_Symmetry_mul_4 = (mSeq (mIfS (mtB (mOp mNe (mFld "Symmetry" "own_net" (mVar 0)) (mFld "Symmetry" "own_net" (mVar 1)))) b_Symmetry_mul_1 mNext) b_Symmetry_mul_3) := Classical.choose_spec x_b_Symmetry_mul_4
theorem x_b_Symmetry_mul : ∃ m : MS, m = (mSeq (mIfS (mtNot (mtB (mIsiO "Symmetry" CLS (mVar 1)))) (mRaise "InvalidOperand" ["given"] (maCons (mVar 1) maNil)) mNext) b_Symmetry_mul_4) := ⟨_, rfl⟩
noncomputable def b_Symmetry_mul : MS := Classical.choose x_b_Symmetry_mul
theorem e_b_Symmetry_mul : b_Symmetry_mul = (mSeq (mIfS (mtNot (mtB (mIsiO "Symmetry" CLS (mVar 1)))) (mRaise "InvalidOperand" ["given"] (maCons (mVar 1) maNil)) mNext) b_Symmetry_mul_4) := Classical.choose_spec x_b_Symmetry_mul
theorem x_u_Symmetry_mul : ∃ m : Spec, m = body 2 4 b_Symmetry_mul := ⟨_, rfl⟩
noncomputable def u_Symmetry_mul : Spec := Classical.choose x_u_Symmetry_mul
theorem e_u_Symmetry_mul : u_Symmetry_mul = body 2 4 b_Symmetry_mul := Classical.choose_spec x_u_Symmetry_mul
theorem x_b_Symmetry_eq_1 : ∃ m : MS, m = (mSeq (mIfS (mtOr (mtB (mOp mNe (mFld "Symmetry" "own_turn" (mVar 0)) (mFld "Symmetry" "own_turn" (mVar 1)))) (mtB (mOp mNe (mFld "Symmetry" "own_mirrored" (mVar 0)) (mFld "Symmetry" "own_mirrored" (mVar 1))))) (mRet (mC (.bl false))) mNext) (mRet (mOp mEq (mFld "Symmetry" "own_place" (mVar 0)) (mFld "Symmetry" "own_place" (mVar 1))))) := ⟨_, rfl⟩
noncomputable def b_Symmetry_eq_1 : MS := Classical.choose x_b_Symmetry_eq_1
theorem e_b_Symmetry_eq_1 : b_Symmetry_eq_1 = (mSeq (mIfS (mtOr (mtB (mOp mNe (mFld "Symmetry" "own_turn" (mVar 0)) (mFld "Symmetry" "own_turn" (mVar 1)))) (mtB (mOp mNe (mFld "Symmetry" "own_mirrored" (mVar 0)) (mFld "Symmetry" "own_mirrored" (mVar 1))))) (mRet (mC (.bl false))) mNext) (mRet (mOp mEq (mFld "Symmetry" "own_place" (mVar 0)) (mFld "Symmetry" "own_place" (mVar 1))))) := Classical.choose_spec x_b_Symmetry_eq_1
theorem x_b_Symmetry_eq : ∃ m : MS, m = (mSeq (mIfS (mtOr (mtNot (mtB (mIsiO "Symmetry" CLS (mVar 1)))) (mtB (mOp mNe (mFld "Symmetry" "own_net" (mVar 0)) (mFld "Symmetry" "own_net" (mVar 1))))) (mRet (mC (.bl false))) mNext) b_Symmetry_eq_1) := ⟨_, rfl⟩
noncomputable def b_Symmetry_eq : MS := Classical.choose x_b_Symmetry_eq
theorem e_b_Symmetry_eq : b_Symmetry_eq = (mSeq (mIfS (mtOr (mtNot (mtB (mIsiO "Symmetry" CLS (mVar 1)))) (mtB (mOp mNe (mFld "Symmetry" "own_net" (mVar 0)) (mFld "Symmetry" "own_net" (mVar 1))))) (mRet (mC (.bl false))) mNext) b_Symmetry_eq_1) := Classical.choose_spec x_b_Symmetry_eq
theorem x_u_Symmetry_eq : ∃ m : Spec, m = body 2 2 b_Symmetry_eq := ⟨_, rfl⟩
noncomputable def u_Symmetry_eq : Spec := Classical.choose x_u_Symmetry_eq
theorem e_u_Symmetry_eq : u_Symmetry_eq = body 2 2 b_Symmetry_eq := Classical.choose_spec x_u_Symmetry_eq
theorem x_b__law_one_right_4 : ∃ m : MS, m = (mSeq (mAsg (mMake "Symmetry" u_Symmetry_init [.bl false] (maCons (mVar 0) (maCons (mTup (maCons (mC (.int (0))) (maCons (mC (.int (0))) maNil))) (maCons (mC (.int (0))) maNil)))) (gmName 8)) (mRet (mAnd (mEqO "Symmetry" CLS u_Symmetry_eq (mBinO "Symmetry" u_Symmetry_mul (mVar 3) (mUnO "Symmetry" u_Symmetry_invert (mVar 3))) (mVar 8)) (mAnd (mEqO "Symmetry" CLS u_Symmetry_eq (mBinO "Symmetry" u_Symmetry_mul (mUnO "Symmetry" u_Symmetry_invert (mVar 3)) (mVar 3)) (mVar 8)) (mAnd (mEqO "Symmetry" CLS u_Symmetry_eq (mBinO "Symmetry" u_Symmetry_mul (mVar 3) (mVar 8)) (mVar 3)) (mNotB (mtTO "Symmetry" u_Symmetry_bool (mVar 8)))))))) := ⟨_, rfl⟩
noncomputable def b__law_one_right_4 : MS := Classical.choose x_b__law_one_right_4
theorem e_b__law_one_right_4 : b__law_one_right_4 = (mSeq (mAsg (mMake "Symmetry" u_Symmetry_init [.bl false] (maCons (mVar 0) (maCons (mTup (maCons (mC (.int (0))) (maCons (mC (.int (0))) maNil))) (maCons (mC (.int (0))) maNil)))) (gmName 8)) (mRet (mAnd (mEqO "Symmetry" CLS u_Symmetry_eq (mBinO "Symmetry" u_Symmetry_mul (mVar 3) (mUnO "Symmetry" u_Symmetry_invert (mVar 3))) (mVar 8)) (mAnd (mEqO "Symmetry" CLS u_Symmetry_eq (mBinO "Symmetry" u_Symmetry_mul (mUnO "Symmetry" u_Symmetry_invert (mVar 3)) (mVar 3)) (mVar 8)) (mAnd (mEqO "Symmetry" CLS u_Symmetry_eq (mBinO "Symmetry" u_Symmetry_mul (mVar 3) (mVar 8)) (mVar 3)) (mNotB (mtTO "Symmetry" u_Symmetry_bool (mVar 8)))))))) := Classical.choose_spec x_b__law_one_right_4
theorem x_b__law_one_right_5 : ∃ m : MS, m = (mSeq (mFor (miRange1 (maCons (mFn fLen (maCons (mVar 2) maNil)) maNil)) (gmName 5) b__law_one_right_3) b__law_one_right_4) := ⟨_, rfl⟩
noncomputable def b__law_one_right_5 : MS := Classical.choose x_b__law_one_right_5
theorem e_b__law_one_right_5 : b__law_one_right_5 = (mSeq (mFor (miRange1 (maCons (mFn fLen (maCons (mVar 2) maNil)) maNil)) (gmName 5) b__law_one_right_3) b__law_one_right_4) := Classical.choose_spec x_b__law_one_right_5
theorem x_b__law_one_right_6 : ∃ m : MS, m = (mSeq (mAsg (mUnO "Symmetry" u_Symmetry_invert (mVar 3)) (gmName 4)) b__law_one_right_5) := ⟨_, rfl⟩
noncomputable def b__law_one_right_6 : MS := Classical.choose x_b__law_one_right_6
theorem e_b__law_one_right_6 : b__law_one_right_6 = (mSeq (mAsg (mUnO "Symmetry" u_Symmetry_invert (mVar 3)) (gmName 4)) b__law_one_right_5) := Classical.choose_spec x_b__law_one_right_6
theorem x_b__law_one_right_7 : ∃ m : MS, m = (mSeq (mIfS (mtB (mOp mNe (mFn (fBoolO "Symmetry" u_Symmetry_bool) (maCons (mVar 3) maNil)) (mOp mNe (mVar 1) (mLst (maCons (mTup (maCons (mC (.int (0))) (maCons (mC (.int (0))) maNil))) (maCons (mC (.int (0))) (maCons (mC (.bl false)) maNil))))))) (mRet (mC (.bl false))) mNext) b__law_one_right_6) := ⟨_, rfl⟩
noncomputable def b__law_one_right_7 : MS := Classical.choose x_b__law_one_right_7
theorem e_b__law_one_right_7 : b__law_one_right_7 = (mSeq (mIfS (mtB (mOp mNe (mFn (fBoolO "Symmetry" u_Symmetry_bool) (maCons (mVar 3) maNil)) (mOp mNe (mVar 1) (mLst (maCons (mTup (maCons (mC (.int (0))) (maCons (mC (.int (0))) maNil))) (maCons (mC (.int (0))) (maCons (mC (.bl false)) maNil))))))) (mRet (mC (.bl false))) mNext) b__law_one_right_6) := Classical.choose_spec x_b__law_one_right_7
theorem x_b__law_one_right_8 : ∃ m : MS, m = (mSeq (mIfS (mtB (mOp mNe (mLst (maCons (mProp "Symmetry" u_Symmetry_net (mVar 3)) (maCons (mProp "Symmetry" u_Symmetry_place (mVar 3)) (maCons (mProp "Symmetry" u_Symmetry_turn (mVar 3)) (maCons (mProp "Symmetry" u_Symmetry_mirrored (mVar 3)) maNil))))) (mOp mAdd (mLst (maCons (mVar 0) maNil)) (mVar 1)))) (mRet (mC (.bl false))) mNext) b__law_one_right_7) := ⟨_, rfl⟩
noncomputable def b__law_one_right_8 : MS := Classical.choose x_b__law_one_right_8
theorem e_b__law_one_right_8 : b__law_one_right_8 = (mSeq (mIfS (mtB (mOp mNe (mLst (maCons (mProp "Symmetry" u_Symmetry_net (mVar 3)) (maCons (mProp "Symmetry" u_Symmetry_place (mVar 3)) (maCons (mProp "Symmetry" u_Symmetry_turn (mVar 3)) (maCons (mProp "Symmetry" u_Symmetry_mirrored (mVar 3)) maNil))))) (mOp mAdd (mLst (maCons (mVar 0) maNil)) (mVar 1)))) (mRet (mC (.bl false))) mNext) b__law_one_right_7) := Classical.choose_spec x_b__law_one_right_8
theorem x_b__law_one_right : ∃ m : MS, m = (mSeq (mAsg (mCall u__law_made [] (maCons (mVar 0) (maCons (mVar 1) maNil))) (gmName 3)) b__law_one_right_8) := ⟨_, rfl⟩
noncomputable def b__law_one_right : MS := Classical.choose x_b__law_one_right
theorem e_b__law_one_right : b__law_one_right = (mSeq (mAsg (mCall u__law_made [] (maCons (mVar 0) (maCons (mVar 1) maNil))) (gmName 3)) b__law_one_right_8) := Classical.choose_spec x_b__law_one_right
theorem x_u__law_one_right : ∃ m : Spec, m = body 3 10 b__law_one_right := ⟨_, rfl⟩
noncomputable def u__law_one_right : Spec := Classical.choose x_u__law_one_right
theorem e_u__law_one_right : u__law_one_right = body 3 10 b__law_one_right := Classical.choose_spec x_u__law_one_right
theorem x_b_law_2 : ∃ m : MS, m = (mIfS (mtNot (mtB (mCall u__law_one_right [] (maCons (mVar 3) (maCons (mVar 7) (maCons (mVar 6) maNil)))))) (mRet (mC (.bl false))) mNext) := ⟨_, rfl⟩
noncomputable def b_law_2 : MS := Classical.choose x_b_law_2
theorem e_b_law_2 : b_law_2 = (mIfS (mtNot (mtB (mCall u__law_one_right [] (maCons (mVar 3) (maCons (mVar 7) (maCons (mVar 6) maNil)))))) (mRet (mC (.bl false))) mNext) := Classical.choose_spec x_b_law_2
theorem x_b__law_pair_right_1 : ∃ m : MS, m = (mIfS (mtB (mOp mNe (mCallO "Symmetry" u_Symmetry_call (mVar 6) (maCons (mVar 7) maNil)) (mCallO "Symmetry" u_Symmetry_call (mVar 4) (maCons (mCallO "Symmetry" u_Symmetry_call (mVar 3) (maCons (mVar 7) maNil)) maNil)))) (mRet (mC (.bl false))) mNext) := ⟨_, rfl⟩
noncomputable def b__law_pair_right_1 : MS := Classical.choose x_b__law_pair_right_1
theorem e_b__law_pair_right_1 : b__law_pair_right_1 = (mIfS (mtB (mOp mNe (mCallO "Symmetry" u_Symmetry_call (mVar 6) (maCons (mVar 7) maNil)) (mCallO "Symmetry" u_Symmetry_call (mVar 4) (maCons (mCallO "Symmetry" u_Symmetry_call (mVar 3) (maCons (mVar 7) maNil)) maNil)))) (mRet (mC (.bl false))) mNext) := Classical.choose_spec x_b__law_pair_right_1
theorem x_b__law_pair_right_2 : ∃ m : MS, m = (mSeq (mFor (miLst (mVar 2)) (gmName 7) b__law_pair_right_1) (mRet (mAnd (mOp mEq (mEqO "Symmetry" CLS u_Symmetry_eq (mVar 3) (mVar 4)) (mOp mEq (mOp mIx (mVar 1) (mC (.int (0)))) (mOp mIx (mVar 1) (mC (.int (1)))))) (mOp mEq (mNeO "Symmetry" CLS u_Symmetry_eq (mVar 3) (mVar 4)) (mOp mNe (mOp mIx (mVar 1) (mC (.int (0)))) (mOp mIx (mVar 1) (mC (.int (1))))))))) := ⟨_, rfl⟩
noncomputable def b__law_pair_right_2 : MS := Classical.choose x_b__law_pair_right_2
theorem e_b__law_pair_right_2 : b__law_pair_right_2 = (mSeq (mFor (miLst (mVar 2)) (gmName 7) b__law_pair_right_1) (mRet (mAnd (mOp mEq (mEqO "Symmetry" CLS u_Symmetry_eq (mVar 3) (mVar 4)) (mOp mEq (mOp mIx (mVar 1) (mC (.int (0)))) (mOp mIx (mVar 1) (mC (.int (1)))))) (mOp mEq (mNeO "Symmetry" CLS u_Symmetry_eq (mVar 3) (mVar 4)) (mOp mNe (mOp mIx (mVar 1) (mC (.int (0)))) (mOp mIx (mVar 1) (mC (.int (1))))))))) := Classical.choose_spec x_b__law_pair_right_2
theorem x_b__law_pair_right_3 : ∃ m : MS, m = (mSeq (mAsg (mBinO "Symmetry" u_Symmetry_mul (mVar 3) (mVar 4)) (gmName 6)) b__law_pair_right_2) := ⟨_, rfl⟩
noncomputable def b__law_pair_right_3 : MS := Classical.choose x_b__law_pair_right_3
theorem e_b__law_pair_right_3 : b__law_pair_right_3 = (mSeq (mAsg (mBinO "Symmetry" u_Symmetry_mul (mVar 3) (mVar 4)) (gmName 6)) b__law_pair_right_2) := Classical.choose_spec x_b__law_pair_right_3
theorem x_b__law_pair_right_4 : ∃ m : MS, m = (mSeq (mIfS (mtOr (mtB (mNeO "Symmetry" CLS u_Symmetry_eq (mBinO "Symmetry" u_Symmetry_mul (mBinO "Symmetry" u_Symmetry_mul (mVar 3) (mVar 4)) (mVar 5)) (mBinO "Symmetry" u_Symmetry_mul (mVar 3) (mBinO "Symmetry" u_Symmetry_mul (mVar 4) (mVar 5))))) (mtB (mNeO "Symmetry" CLS u_Symmetry_eq (mUnO "Symmetry" u_Symmetry_invert (mBinO "Symmetry" u_Symmetry_mul (mVar 3) (mVar 4))) (mBinO "Symmetry" u_Symmetry_mul (mUnO "Symmetry" u_Symmetry_invert (mVar 4)) (mUnO "Symmetry" u_Symmetry_invert (mVar 3)))))) (mRet (mC (.bl false))) mNext) b__law_pair_right_3) := ⟨_, rfl⟩
noncomputable def b__law_pair_right_4 : MS := Classical.choose x_b__law_pair_right_4
theorem e_b__law_pair_right_4 : b__law_pair_right_4 = (mSeq (mIfS (mtOr (mtB (mNeO "Symmetry" CLS u_Symmetry_eq (mBinO "Symmetry" u_Symmetry_mul (mBinO "Symmetry" u_Symmetry_mul (mVar 3) (mVar 4)) (mVar 5)) (mBinO "Symmetry" u_Symmetry_mul (mVar 3) (mBinO "Symmetry" u_Symmetry_mul (mVar 4) (mVar 5))))) (mtB (mNeO "Symmetry" CLS u_Symmetry_eq (mUnO "Symmetry" u_Symmetry_invert (mBinO "Symmetry" u_Symmetry_mul (mVar 3) (mVar 4))) (mBinO "Symmetry" u_Symmetry_mul (mUnO "Symmetry" u_Symmetry_invert (mVar 4)) (mUnO "Symmetry" u_Symmetry_invert (mVar 3)))))) (mRet (mC (.bl false))) mNext) b__law_pair_right_3) := Classical.choose_spec x_b__law_pair_right_4
theorem x_b__law_pair_right : ∃ m : MS, m = (mSeq (mAsg (mComp (miLst (mVar 1)) [8] (gmName 8) mtYes (mCall u__law_made [] (maCons (mVar 0) (maCons (mVar 8) maNil)))) (gmUnl 3 (gmCons (gmName 3) (gmCons (gmName 4) (gmCons (gmName 5) gmNil))))) b__law_pair_right_4) := ⟨_, rfl⟩
noncomputable def b__law_pair_right : MS := Classical.choose x_b__law_pair_right
theorem e_b__law_pair_right : b__law_pair_right = (mSeq (mAsg (mComp (miLst (mVar 1)) [8] (gmName 8) mtYes (mCall u__law_made [] (maCons (mVar 0) (maCons (mVar 8) maNil)))) (gmUnl 3 (gmCons (gmName 3) (gmCons (gmName 4) (gmCons (gmName 5) gmNil))))) b__law_pair_right_4) := Classical.choose_spec x_b__law_pair_right
theorem x_u__law_pair_right : ∃ m : Spec, m = body 3 9 b__law_pair_right := ⟨_, rfl⟩
noncomputable def u__law_pair_right : Spec := Classical.choose x_u__law_pair_right
theorem e_u__law_pair_right : u__law_pair_right = body 3 9 b__law_pair_right := Classical.choose_spec x_u__law_pair_right
theorem x_b_law_3 : ∃ m : MS, m = (mIfS (mtOr (mtB (mEqO "Symmetry" CLS u_Symmetry_eq (mMake "Symmetry" u_Symmetry_init [.bl false] (maCons (mVar 3) (maCons (mTup (maCons (mC (.int (1))) (maCons (mC (.int (0))) maNil))) (maCons (mC (.int (1))) maNil)))) (mMake "Symmetry" u_Symmetry_init [.bl false] (maCons (mVar 8) (maCons (mTup (maCons (mC (.int (1))) (maCons (mC (.int (0))) maNil))) (maCons (mC (.int (1))) maNil)))))) (mtB (mEqO "Symmetry" CLS u_Symmetry_eq (mMake "Symmetry" u_Symmetry_init [.bl false] (maCons (mVar 3) (maCons (mTup (maCons (mC (.int (0))) (maCons (mC (.int (0))) maNil))) (maCons (mC (.int (0))) maNil)))) (mTup (maCons (mC (.int (0))) (maCons (mC (.int (0))) maNil)))))) (mRet (mC (.bl false))) mNext) := ⟨_, rfl⟩
noncomputable def b_law_3 : MS := Classical.choose x_b_law_3
theorem e_b_law_3 : b_law_3 = (mIfS (mtOr (mtB (mEqO "Symmetry" CLS u_Symmetry_eq (mMake "Symmetry" u_Symmetry_init [.bl false] (maCons (mVar 3) (maCons (mTup (maCons (mC (.int (1))) (maCons (mC (.int (0))) maNil))) (maCons (mC (.int (1))) maNil)))) (mMake "Symmetry" u_Symmetry_init [.bl false] (maCons (mVar 8) (maCons (mTup (maCons (mC (.int (1))) (maCons (mC (.int (0))) maNil))) (maCons (mC (.int (1))) maNil)))))) (mtB (mEqO "Symmetry" CLS u_Symmetry_eq (mMake "Symmetry" u_Symmetry_init [.bl false] (maCons (mVar 3) (maCons (mTup (maCons (mC (.int (0))) (maCons (mC (.int (0))) maNil))) (maCons (mC (.int (0))) maNil)))) (mTup (maCons (mC (.int (0))) (maCons (mC (.int (0))) maNil)))))) (mRet (mC (.bl false))) mNext) := Classical.choose_spec x_b_law_3
theorem x_b_law_4 : ∃ m : MS, m = (mSeq (mAsg (mOp mIx (mLst (maCons (mC (.str "square")) (maCons (mC (.str "triangle")) maNil))) (mFn fInt (maCons (mOp mEq (mVar 3) (mC (.str "square"))) maNil))) (gmName 8)) b_law_3) := ⟨_, rfl⟩
noncomputable def b_law_4 : MS := Classical.choose x_b_law_4
theorem e_b_law_4 : b_law_4 = (mSeq (mAsg (mOp mIx (mLst (maCons (mC (.str "square")) (maCons (mC (.str "triangle")) maNil))) (mFn fInt (maCons (mOp mEq (mVar 3) (mC (.str "square"))) maNil))) (gmName 8)) b_law_3) := Classical.choose_spec x_b_law_4
theorem x_b_law_5 : ∃ m : MS, m = (mSeq (mIfS (mtNot (mtB (mCall u__law_pair_right [] (maCons (mVar 3) (maCons (mVar 5) (maCons (mVar 6) maNil)))))) (mRet (mC (.bl false))) mNext) b_law_4) := ⟨_, rfl⟩
noncomputable def b_law_5 : MS := Classical.choose x_b_law_5
theorem e_b_law_5 : b_law_5 = (mSeq (mIfS (mtNot (mtB (mCall u__law_pair_right [] (maCons (mVar 3) (maCons (mVar 5) (maCons (mVar 6) maNil)))))) (mRet (mC (.bl false))) mNext) b_law_4) := Classical.choose_spec x_b_law_5
theorem x_b_law_6 : ∃ m : MS, m = (mSeq (mAsg (mOp mAdd (mComp (miRange1 (maCons (mC (.int (6))) maNil)) [9] (gmName 9) mtYes (mTup (maCons (mOp mSub (mCall u__law_draw [] (maCons (mVar 2) (maCons (mC (.int (19))) maNil))) (mC (.int (9)))) (maCons (mOp mSub (mCall u__law_draw [] (maCons (mVar 2) (maCons (mC (.int (19))) maNil))) (mC (.int (9)))) maNil)))) (mLst (maCons (mTup (maCons (mC (.int (0))) (maCons (mC (.int (0))) maNil))) maNil))) (gmName 6)) (mSeq (mFor (miLst (mVar 5)) (gmName 7) b_law_2) b_law_5)) := ⟨_, rfl⟩
noncomputable def b_law_6 : MS := Classical.choose x_b_law_6
theorem e_b_law_6 : b_law_6 = (mSeq (mAsg (mOp mAdd (mComp (miRange1 (maCons (mC (.int (6))) maNil)) [9] (gmName 9) mtYes (mTup (maCons (mOp mSub (mCall u__law_draw [] (maCons (mVar 2) (maCons (mC (.int (19))) maNil))) (mC (.int (9)))) (maCons (mOp mSub (mCall u__law_draw [] (maCons (mVar 2) (maCons (mC (.int (19))) maNil))) (mC (.int (9)))) maNil)))) (mLst (maCons (mTup (maCons (mC (.int (0))) (maCons (mC (.int (0))) maNil))) maNil))) (gmName 6)) (mSeq (mFor (miLst (mVar 5)) (gmName 7) b_law_2) b_law_5)) := Classical.choose_spec x_b_law_6
theorem x_b_law_7 : ∃ m : MS, m = (mSeq (mIfS (mtB (mOp mEq (mCall u__law_draw [] (maCons (mVar 2) (maCons (mC (.int (3))) maNil))) (mC (.int (0))))) b_law_1 mNext) b_law_6) := ⟨_, rfl⟩
noncomputable def b_law_7 : MS := Classical.choose x_b_law_7
theorem e_b_law_7 : b_law_7 = (mSeq (mIfS (mtB (mOp mEq (mCall u__law_draw [] (maCons (mVar 2) (maCons (mC (.int (3))) maNil))) (mC (.int (0))))) b_law_1 mNext) b_law_6) := Classical.choose_spec x_b_law_7
theorem x_b_law_8 : ∃ m : MS, m = (mSeq (mAsg (mComp (miRange1 (maCons (mC (.int (3))) maNil)) [9] (gmName 9) mtYes (mCall u__law_parts [] (maCons (mVar 2) (maCons (mVar 3) (maCons (mVar 4) maNil))))) (gmName 5)) b_law_7) := ⟨_, rfl⟩
noncomputable def b_law_8 : MS := Classical.choose x_b_law_8
theorem e_b_law_8 : b_law_8 = (mSeq (mAsg (mComp (miRange1 (maCons (mC (.int (3))) maNil)) [9] (gmName 9) mtYes (mCall u__law_parts [] (maCons (mVar 2) (maCons (mVar 3) (maCons (mVar 4) maNil))))) (gmName 5)) b_law_7) := Classical.choose_spec x_b_law_8
theorem x_b_law_9 : ∃ m : MS, m = (mSeq (mAsg (mOp mIx (mLst (maCons (mC (.int (1))) (maCons (mC (.int (9))) (maCons (mCall u__law_big [] (maCons (mVar 2) maNil)) maNil)))) (mCall u__law_draw [] (maCons (mVar 2) (maCons (mC (.int (3))) maNil)))) (gmName 4)) b_law_8) := ⟨_, rfl⟩
noncomputable def b_law_9 : MS := Classical.choose x_b_law_9
theorem e_b_law_9 : b_law_9 = (mSeq (mAsg (mOp mIx (mLst (maCons (mC (.int (1))) (maCons (mC (.int (9))) (maCons (mCall u__law_big [] (maCons (mVar 2) maNil)) maNil)))) (mCall u__law_draw [] (maCons (mVar 2) (maCons (mC (.int (3))) maNil)))) (gmName 4)) b_law_8) := Classical.choose_spec x_b_law_9
theorem x_b_law_10 : ∃ m : MS, m = (mFor (miLst (mLst (maCons (mC (.str "square")) (maCons (mC (.str "triangle")) maNil)))) (gmName 3) b_law_9) := ⟨_, rfl⟩
noncomputable def b_law_10 : MS := Classical.choose x_b_law_10
theorem e_b_law_10 : b_law_10 = (mFor (miLst (mLst (maCons (mC (.str "square")) (maCons (mC (.str "triangle")) maNil)))) (gmName 3) b_law_9) := Classical.choose_spec x_b_law_10
theorem x_b_law_11 : ∃ m : MS, m = (mSeq (mAsg (mCall u__law_source [] (maCons (mVar 0) (maCons (mVar 1) maNil))) (gmName 2)) b_law_10) := ⟨_, rfl⟩
noncomputable def b_law_11 : MS := Classical.choose x_b_law_11
theorem e_b_law_11 : b_law_11 = (mSeq (mAsg (mCall u__law_source [] (maCons (mVar 0) (maCons (mVar 1) maNil))) (gmName 2)) b_law_10) := Classical.choose_spec x_b_law_11
theorem x_b_law : ∃ m : MS, m = (mSeq (mFor (miRange1 (maCons (mFn fMax2 (maCons (mC (.int (1))) (maCons (mFn fMin2 (maCons (mFn fLen (maCons (mVar 0) maNil)) (maCons (mC (.int (8))) maNil))) maNil))) maNil)) (gmName 1) b_law_11) (mRet (mAnd (mNotB (mtTO "Symmetry" u_Symmetry_bool (mMake "Symmetry" u_Symmetry_init [.bl false] (maCons (mC (.str "square")) (maCons (mTup (maCons (mC (.int (0))) (maCons (mC (.int (0))) maNil))) (maCons (mC (.int (0))) maNil)))))) (mFn (fBoolO "Symmetry" u_Symmetry_bool) (maCons (mMake "Symmetry" u_Symmetry_init [] (maCons (mC (.str "square")) (maCons (mTup (maCons (mC (.int (0))) (maCons (mC (.int (0))) maNil))) (maCons (mC (.int (0))) (maCons (mC (.bl true)) maNil))))) maNil))))) := ⟨_, rfl⟩
noncomputable def b_law : MS := Classical.choose x_b_law
theorem e_b_law : b_law = (mSeq (mFor (miRange1 (maCons (mFn fMax2 (maCons (mC (.int (1))) (maCons (mFn fMin2 (maCons (mFn fLen (maCons (mVar 0) maNil)) (maCons (mC (.int (8))) maNil))) maNil))) maNil)) (gmName 1) b_law_11) (mRet (mAnd (mNotB (mtTO "Symmetry" u_Symmetry_bool (mMake "Symmetry" u_Symmetry_init [.bl false] (maCons (mC (.str "square")) (maCons (mTup (maCons (mC (.int (0))) (maCons (mC (.int (0))) maNil))) (maCons (mC (.int (0))) maNil)))))) (mFn (fBoolO "Symmetry" u_Symmetry_bool) (maCons (mMake "Symmetry" u_Symmetry_init [] (maCons (mC (.str "square")) (maCons (mTup (maCons (mC (.int (0))) (maCons (mC (.int (0))) maNil))) (maCons (mC (.int (0))) (maCons (mC (.bl true)) maNil))))) maNil))))) := Classical.choose_spec x_b_law
theorem x_u_law : ∃ m : Spec, m = body 1 10 b_law := ⟨_, rfl⟩
noncomputable def u_law : Spec := Classical.choose x_u_law
theorem e_u_law : u_law = body 1 10 b_law := Classical.choose_spec x_u_law
end Lw
namespace Lw
open PySem PySem.Spec PyProof.Rows L2

/-! ### the plain law: small things -/
theorem sl_pos {n : Nat} (h : n ≤ 1000) : n ≤ sizeLine := by rw [sizeLine_eq]; omega
theorem tyB6 {S : Sto} {d : D} {s : String} (h : tyD S d = some (.b s)) : s = "NoneType" ∨ s = "bool" ∨ s = "int" ∨ s = "str" ∨ s = "tuple" ∨ s = "list" := by
  have := tyB_kind h
  simpa [kinds] using this
/-- a value of which isinstance may be asked -/
def Okt (S : Sto) (d : D) : Prop := match tyD S d with
  | some (.b _) => True
  | some (.o k) => k ∈ CLS
  | none => False
def isIntD : D → Bool
  | .int _ => true
  | _ => false
def isStrD : D → Bool
  | .str _ => true
  | _ => false
def isTupD : D → Bool
  | .tup _ => true
  | _ => false
theorem tyD_int {S : Sto} {d : D} : tyD S d = some (.b "int") ↔ isIntD d = true := by
  cases d <;> simp [tyD, isIntD]
  split <;> simp
section
variable {S : Sto} {d : D} {q : QD} {x : QX}
theorem is_integer_ok (o : Okt S d) (h : q (.bl (isIntD d)) S) : u_is_integer [d] S q x := by
  rw [e_u_is_integer, e_b_is_integer]
  simp only [e_mNext, e_mSeq, e_mExpr, e_mRet, e_mRetN, e_mIfS, e_mBreak, e_mCont, e_mAsg, e_mPar, e_gmName, e_gmNil, e_gmCons, e_gmTup, e_gmSub, e_mVar, e_mC, e_mOp, e_mtB, e_mtT, e_mtNot, e_mtAnd, e_mtOr, e_mAnd, e_mOr, e_mAndT, e_mOrT, e_mIf, e_mNotB, e_mChain, e_maNil, e_maCons, e_mTup, e_mLst, e_mCall, e_mFld, e_mProp, e_mMeth, e_mMake, e_mSetF, e_mUnO, e_mBinO, e_mCallO, e_mCMeth, e_mRaise, e_mTry, e_mFn, e_mNeg, e_mIsiB, e_mIsiO, e_mFor, e_miRange1, e_miRange2, e_miTup, e_miLst, e_body, e_addII, e_addIB, e_addSS, e_addTT, e_addRR, e_subII, e_mulII, e_fdivII, e_modII, e_powII, e_ltII, e_leII, e_gtII, e_geII, e_is, e_isNot, e_ixT, e_ixR, e_ixS, e_ixD, e_inD, e_isIns, e_fLenS, e_fLenT, e_fLenR, e_fMax2, e_fMin2, e_fAbs, e_fIntI, e_fIntB, e_fBoolI, e_fBoolB, e_mExcF, e_tryNil, e_tryCons, e_mBM, e_append, e_extend, e_gmUnl, e_mEqO, e_mNeO, e_fLenO, e_fBoolO, e_mtTO, e_mInO, e_mNotInO, e_mGetO, e_mComp, e_mtYes, putD, List.getElem?_cons_zero, List.getElem?_cons_succ, List.set_cons_zero, List.set_cons_succ, List.map_cons, List.map_nil, List.length_cons, List.length_nil, List.cons_append, List.nil_append, List.append_nil, List.replicate, Nat.reduceAdd, Nat.reduceSub, Nat.reduceLeDiff, Nat.zero_add, true_and, and_true, reduceIte, Bool.false_eq_true, Bool.true_eq_false, Bool.not_true, Bool.not_false]
  unfold Okt at o
  cases d with
  | ref n =>
    cases e : tyD S (.ref n) with
    | none => rw [e] at o; exact o.elim
    | some t =>
      rw [e] at o
      have hi : t ≠ .b "int" := fun z => by
        have := tyD_int (S := S) (d := .ref n)
        rw [e, z] at this
        simp [isIntD] at this
      have hb : t ≠ .b "bool" := fun z => by
        rw [z] at e
        unfold tyD at e
        dsimp only at e
        split at e <;> simp at e
      cases t with
      | b s =>
        have : s ≠ "int" := fun z => hi (by rw [z])
        have : s ≠ "bool" := fun z => hb (by rw [z])
        simp [isB, *, isIntD] at h ⊢
        exact h
      | o k => exact ⟨o, h⟩
  | _ => first
    | exact o.elim
    | simpa [tyD, isB, isIntD, truD] using h
end
/-! ### == of small data -/
theorem mEq_of {S : Sto} {d e : D} {q : QD} {a b : PyData} (ha : tree 9 S d = some a) (hb : tree 9 S e = some b) (sa : SeqAt.shaped a = true) (sb : SeqAt.shaped b = true) (h : q (.bl (PyData.eqv a b)) S) : mEq d e S q := by
  unfold mEq
  rw [ha, hb]
  exact ⟨⟨sa, sb⟩, h⟩
theorem mNe_of {S : Sto} {d e : D} {q : QD} {a b : PyData} (ha : tree 9 S d = some a) (hb : tree 9 S e = some b) (sa : SeqAt.shaped a = true) (sb : SeqAt.shaped b = true) (h : q (.bl (!PyData.eqv a b)) S) : mNe d e S q := by
  unfold mNe
  rw [ha, hb]
  exact ⟨⟨sa, sb⟩, h⟩
theorem sh_int (i : Int) : SeqAt.shaped (.int i) = true := by simp [SeqAt.shaped, PyData.canLay0, PyData.depth]
theorem tree_int {S : Sto} (i : Int) : tree 9 S (.int i) = some (.int i) := rfl
theorem mEq_int {S : Sto} {i j : Int} {q : QD} : mEq (.int i) (.int j) S q ↔ q (.bl (i == j)) S := by
  unfold mEq
  simp [tree_int, sh_int, PyData.eqv]
theorem mNe_int {S : Sto} {i j : Int} {q : QD} : mNe (.int i) (.int j) S q ↔ q (.bl (!(i == j))) S := by
  unfold mNe
  simp [tree_int, sh_int, PyData.eqv]
/-! ### places, nets, numbers -/
def placeD : D → Bool
  | .tup [.int _, .int _] => true
  | _ => false
def netD : D → Bool
  | .str z => z == "square" || z == "triangle"
  | _ => false
section
variable {S : Sto} {d : D} {q : QD} {x : QX}
theorem okt_ref {n : Nat} (o : Okt S (.ref n)) : (∃ s, tyD S (.ref n) = some (.b s) ∧ s = "list") ∨ ∃ k, tyD S (.ref n) = some (.o k) ∧ k ∈ CLS := by
  unfold Okt at o
  cases e : tyD S (.ref n) with
  | none => rw [e] at o; exact o.elim
  | some t =>
    rw [e] at o
    cases t with
    | b s =>
      refine .inl ⟨s, rfl, ?_⟩
      unfold tyD at e
      dsimp only at e
      split at e <;> simp at e
      · exact e.symm
      · exact e.symm
    | o k => exact .inr ⟨k, rfl, o⟩
theorem is_place_ok (o : Okt S d) (o2 : ∀ a b, d = .tup [a, b] → Okt S a ∧ Okt S b) (h : q (.bl (placeD d)) S) : u_is_place [d] S q x := by
  rw [e_u_is_place, e_b_is_place]
  simp only [e_mNext, e_mSeq, e_mExpr, e_mRet, e_mRetN, e_mIfS, e_mBreak, e_mCont, e_mAsg, e_mPar, e_gmName, e_gmNil, e_gmCons, e_gmTup, e_gmSub, e_mVar, e_mC, e_mOp, e_mtB, e_mtT, e_mtNot, e_mtAnd, e_mtOr, e_mAnd, e_mOr, e_mAndT, e_mOrT, e_mIf, e_mNotB, e_mChain, e_maNil, e_maCons, e_mTup, e_mLst, e_mCall, e_mFld, e_mProp, e_mMeth, e_mMake, e_mSetF, e_mUnO, e_mBinO, e_mCallO, e_mCMeth, e_mRaise, e_mTry, e_mFn, e_mNeg, e_mIsiB, e_mIsiO, e_mFor, e_miRange1, e_miRange2, e_miTup, e_miLst, e_body, e_addII, e_addIB, e_addSS, e_addTT, e_addRR, e_subII, e_mulII, e_fdivII, e_modII, e_powII, e_ltII, e_leII, e_gtII, e_geII, e_is, e_isNot, e_ixT, e_ixR, e_ixS, e_ixD, e_inD, e_isIns, e_fLenS, e_fLenT, e_fLenR, e_fMax2, e_fMin2, e_fAbs, e_fIntI, e_fIntB, e_fBoolI, e_fBoolB, e_mExcF, e_tryNil, e_tryCons, e_mBM, e_append, e_extend, e_gmUnl, e_mEqO, e_mNeO, e_fLenO, e_fBoolO, e_mtTO, e_mInO, e_mNotInO, e_mGetO, e_mComp, e_mtYes, putD, List.getElem?_cons_zero, List.getElem?_cons_succ, List.set_cons_zero, List.set_cons_succ, List.map_cons, List.map_nil, List.length_cons, List.length_nil, List.cons_append, List.nil_append, List.append_nil, List.replicate, Nat.reduceAdd, Nat.reduceSub, Nat.reduceLeDiff, Nat.zero_add, true_and, and_true, reduceIte, Bool.false_eq_true, Bool.true_eq_false, Bool.not_true, Bool.not_false]
  cases d with
  | ref n =>
    rcases okt_ref o with ⟨s, e, rfl⟩ | ⟨k, e, hk⟩
    · rw [e]; simpa [isB, placeD] using h
    · rw [e]; exact ⟨hk, by simpa [placeD] using h⟩
  | tup ds =>
    simp only [tyD, isB, beq_self_eq_true, Bool.true_or, reduceIte]
    simp only [e_mNext, e_mSeq, e_mExpr, e_mRet, e_mRetN, e_mIfS, e_mBreak, e_mCont, e_mAsg, e_mPar, e_gmName, e_gmNil, e_gmCons, e_gmTup, e_gmSub, e_mVar, e_mC, e_mOp, e_mtB, e_mtT, e_mtNot, e_mtAnd, e_mtOr, e_mAnd, e_mOr, e_mAndT, e_mOrT, e_mIf, e_mNotB, e_mChain, e_maNil, e_maCons, e_mTup, e_mLst, e_mCall, e_mFld, e_mProp, e_mMeth, e_mMake, e_mSetF, e_mUnO, e_mBinO, e_mCallO, e_mCMeth, e_mRaise, e_mTry, e_mFn, e_mNeg, e_mIsiB, e_mIsiO, e_mFor, e_miRange1, e_miRange2, e_miTup, e_miLst, e_body, e_addII, e_addIB, e_addSS, e_addTT, e_addRR, e_subII, e_mulII, e_fdivII, e_modII, e_powII, e_ltII, e_leII, e_gtII, e_geII, e_is, e_isNot, e_ixT, e_ixR, e_ixS, e_ixD, e_inD, e_isIns, e_fLenS, e_fLenT, e_fLenR, e_fMax2, e_fMin2, e_fAbs, e_fIntI, e_fIntB, e_fBoolI, e_fBoolB, e_mExcF, e_tryNil, e_tryCons, e_mBM, e_append, e_extend, e_gmUnl, e_mEqO, e_mNeO, e_fLenO, e_fBoolO, e_mtTO, e_mInO, e_mNotInO, e_mGetO, e_mComp, e_mtYes, putD, List.getElem?_cons_zero, List.getElem?_cons_succ, List.set_cons_zero, List.set_cons_succ, List.map_cons, List.map_nil, List.length_cons, List.length_nil, List.cons_append, List.nil_append, List.append_nil, List.replicate, Nat.reduceAdd, Nat.reduceSub, Nat.reduceLeDiff, Nat.zero_add, true_and, and_true, reduceIte, Bool.false_eq_true, Bool.true_eq_false, Bool.not_true, Bool.not_false, mEq_int]
    match ds, h, o2 with
    | [], h, _ => simpa [placeD] using h
    | [a], h, _ => simpa [placeD] using h
    | [a, b], h, o2 =>
      obtain ⟨oa, ob⟩ := o2 a b rfl
      simp [L2.atI, L2.ixN]
      refine is_integer_ok oa ?_
      cases a <;> simp [isIntD, placeD] at h ⊢ <;> first | exact h | skip
      refine is_integer_ok ob ?_
      cases b <;> simpa [isIntD, placeD] using h
    | a :: b :: c :: r, h, _ =>
      have : ((((r.length + 1 + 1 : Nat) : Int) + 1) == 2) = false := by simp; omega
      simp [placeD] at h
      simp
      split
      · omega
      · exact h
  | _ => first
    | exact o.elim
    | simpa [tyD, isB, placeD] using h
end
end Lw

namespace Lw
open PySem PySem.Spec PyProof.Rows L2

/-- a loop by an invariant: what is said of the items that are left -/
theorem forL_ind {ok : Sto → Prop} {g : MG} {b : MS} {md : MEnds} (Inv : List D → Sg → Sto → Prop) (hn : ∀ sd S, Inv [] sd S → ok S ∧ md.nx sd S)
    (hs : ∀ d ds sd S, Inv (d :: ds) sd S → (∀ sd' S', Inv ds sd' S' → forL ok g b md ds sd' S') → ok S ∧ g d sd S (fun sd1 S1 => b { md with nx := forL ok g b md ds, ct := forL ok g b md ds, bk := md.nx } sd1 S1)) :
    ∀ items sd S, Inv items sd S → forL ok g b md items sd S
  | [], sd, S, h => by unfold forL; exact hn sd S h
  | d :: ds, sd, S, h => by unfold forL; exact hs d ds sd S h fun sd' S' h' => forL_ind Inv hn hs ds sd' S' h'
def Net (z : Str) : Prop := z = "square" ∨ z = "triangle"
def hc (z : Str) : Int := if z = "square" then 4 else 6
theorem hc_pos (z : Str) : 0 < hc z := by unfold hc; split <;> decide
theorem hc_le (z : Str) : hc z ≤ 6 := by unfold hc; split <;> decide
theorem tri_ne : ((("triangle" : Str) = "square") : Prop) = False := by simp; decide
theorem hc_sq : hc "square" = 4 := rfl
theorem hc_tri : hc "triangle" = 6 := by unfold hc; rw [if_neg (by decide)]
def mv (z : Str) (x y t : Int) : O := .ins "Movement" [("own_net", .str z), ("own_place", .tup [.int x, .int y]), ("own_turn", .int t)]
section
variable {S : Sto} {d e : D} {q : QD} {x : QX}
theorem check_place_ok (o : Okt S d) (o2 : ∀ a b, d = .tup [a, b] → Okt S a ∧ Okt S b) (h1 : placeD d = true → q .non S) (h2 : placeD d = false → x ⟨"InvalidPlace", [("given", d)]⟩ S) : u_check_place [d] S q x := by
  rw [e_u_check_place, e_b_check_place]
  simp only [e_mNext, e_mSeq, e_mExpr, e_mRet, e_mRetN, e_mIfS, e_mBreak, e_mCont, e_mAsg, e_mPar, e_gmName, e_gmNil, e_gmCons, e_gmTup, e_gmSub, e_mVar, e_mC, e_mOp, e_mtB, e_mtT, e_mtNot, e_mtAnd, e_mtOr, e_mAnd, e_mOr, e_mAndT, e_mOrT, e_mIf, e_mNotB, e_mChain, e_maNil, e_maCons, e_mTup, e_mLst, e_mCall, e_mFld, e_mProp, e_mMeth, e_mMake, e_mSetF, e_mUnO, e_mBinO, e_mCallO, e_mCMeth, e_mRaise, e_mTry, e_mFn, e_mNeg, e_mIsiB, e_mIsiO, e_mFor, e_miRange1, e_miRange2, e_miTup, e_miLst, e_body, e_addII, e_addIB, e_addSS, e_addTT, e_addRR, e_subII, e_mulII, e_fdivII, e_modII, e_powII, e_ltII, e_leII, e_gtII, e_geII, e_is, e_isNot, e_ixT, e_ixR, e_ixS, e_ixD, e_inD, e_isIns, e_fLenS, e_fLenT, e_fLenR, e_fMax2, e_fMin2, e_fAbs, e_fIntI, e_fIntB, e_fBoolI, e_fBoolB, e_mExcF, e_tryNil, e_tryCons, e_mBM, e_append, e_extend, e_gmUnl, e_mEqO, e_mNeO, e_fLenO, e_fBoolO, e_mtTO, e_mInO, e_mNotInO, e_mGetO, e_mComp, e_mtYes, putD, List.getElem?_cons_zero, List.getElem?_cons_succ, List.set_cons_zero, List.set_cons_succ, List.map_cons, List.map_nil, List.length_cons, List.length_nil, List.cons_append, List.nil_append, List.append_nil, List.replicate, Nat.reduceAdd, Nat.reduceSub, Nat.reduceLeDiff, Nat.zero_add, true_and, and_true, reduceIte, Bool.false_eq_true, Bool.true_eq_false, Bool.not_true, Bool.not_false]
  refine is_place_ok o o2 ?_
  cases e : placeD d with
  | true => simpa using h1 e
  | false => simpa using h2 e
theorem steps_lookup (z : Str) : (tab_STEPS.lookup z).isSome = (z == "square" || z == "triangle") := by
  unfold tab_STEPS
  rw [List.lookup_cons]
  cases e1 : z == "square" with
  | true => simp
  | false =>
    dsimp only
    rw [List.lookup_cons]
    cases e2 : z == "triangle" <;> simp
theorem is_net_ok (o : Okt S d) (h : q (.bl (netD d)) S) : u_is_net [d] S q x := by
  rw [e_u_is_net, e_b_is_net]
  simp only [e_mNext, e_mSeq, e_mExpr, e_mRet, e_mRetN, e_mIfS, e_mBreak, e_mCont, e_mAsg, e_mPar, e_gmName, e_gmNil, e_gmCons, e_gmTup, e_gmSub, e_mVar, e_mC, e_mOp, e_mtB, e_mtT, e_mtNot, e_mtAnd, e_mtOr, e_mAnd, e_mOr, e_mAndT, e_mOrT, e_mIf, e_mNotB, e_mChain, e_maNil, e_maCons, e_mTup, e_mLst, e_mCall, e_mFld, e_mProp, e_mMeth, e_mMake, e_mSetF, e_mUnO, e_mBinO, e_mCallO, e_mCMeth, e_mRaise, e_mTry, e_mFn, e_mNeg, e_mIsiB, e_mIsiO, e_mFor, e_miRange1, e_miRange2, e_miTup, e_miLst, e_body, e_addII, e_addIB, e_addSS, e_addTT, e_addRR, e_subII, e_mulII, e_fdivII, e_modII, e_powII, e_ltII, e_leII, e_gtII, e_geII, e_is, e_isNot, e_ixT, e_ixR, e_ixS, e_ixD, e_inD, e_isIns, e_fLenS, e_fLenT, e_fLenR, e_fMax2, e_fMin2, e_fAbs, e_fIntI, e_fIntB, e_fBoolI, e_fBoolB, e_mExcF, e_tryNil, e_tryCons, e_mBM, e_append, e_extend, e_gmUnl, e_mEqO, e_mNeO, e_fLenO, e_fBoolO, e_mtTO, e_mInO, e_mNotInO, e_mGetO, e_mComp, e_mtYes, putD, List.getElem?_cons_zero, List.getElem?_cons_succ, List.set_cons_zero, List.set_cons_succ, List.map_cons, List.map_nil, List.length_cons, List.length_nil, List.cons_append, List.nil_append, List.append_nil, List.replicate, Nat.reduceAdd, Nat.reduceSub, Nat.reduceLeDiff, Nat.zero_add, true_and, and_true, reduceIte, Bool.false_eq_true, Bool.true_eq_false, Bool.not_true, Bool.not_false]
  cases d with
  | ref n =>
    rcases okt_ref o with ⟨s, e, rfl⟩ | ⟨k, e, hk⟩
    · rw [e]; simpa [isB, netD] using h
    · rw [e]; exact ⟨hk, by simpa [netD] using h⟩
  | str z =>
    simp only [tyD, isB, beq_self_eq_true, Bool.true_or, reduceIte]
    simp only [e_mNext, e_mSeq, e_mExpr, e_mRet, e_mRetN, e_mIfS, e_mBreak, e_mCont, e_mAsg, e_mPar, e_gmName, e_gmNil, e_gmCons, e_gmTup, e_gmSub, e_mVar, e_mC, e_mOp, e_mtB, e_mtT, e_mtNot, e_mtAnd, e_mtOr, e_mAnd, e_mOr, e_mAndT, e_mOrT, e_mIf, e_mNotB, e_mChain, e_maNil, e_maCons, e_mTup, e_mLst, e_mCall, e_mFld, e_mProp, e_mMeth, e_mMake, e_mSetF, e_mUnO, e_mBinO, e_mCallO, e_mCMeth, e_mRaise, e_mTry, e_mFn, e_mNeg, e_mIsiB, e_mIsiO, e_mFor, e_miRange1, e_miRange2, e_miTup, e_miLst, e_body, e_addII, e_addIB, e_addSS, e_addTT, e_addRR, e_subII, e_mulII, e_fdivII, e_modII, e_powII, e_ltII, e_leII, e_gtII, e_geII, e_is, e_isNot, e_ixT, e_ixR, e_ixS, e_ixD, e_inD, e_isIns, e_fLenS, e_fLenT, e_fLenR, e_fMax2, e_fMin2, e_fAbs, e_fIntI, e_fIntB, e_fBoolI, e_fBoolB, e_mExcF, e_tryNil, e_tryCons, e_mBM, e_append, e_extend, e_gmUnl, e_mEqO, e_mNeO, e_fLenO, e_fBoolO, e_mtTO, e_mInO, e_mNotInO, e_mGetO, e_mComp, e_mtYes, putD, List.getElem?_cons_zero, List.getElem?_cons_succ, List.set_cons_zero, List.set_cons_succ, List.map_cons, List.map_nil, List.length_cons, List.length_nil, List.cons_append, List.nil_append, List.append_nil, List.replicate, Nat.reduceAdd, Nat.reduceSub, Nat.reduceLeDiff, Nat.zero_add, true_and, and_true, reduceIte, Bool.false_eq_true, Bool.true_eq_false, Bool.not_true, Bool.not_false, steps_lookup]
    simpa [netD] using h
  | _ => first
    | exact o.elim
    | simpa [tyD, isB, netD] using h
theorem check_net_ok (o : Okt S d) (h1 : netD d = true → q .non S) (h2 : netD d = false → x ⟨"InvalidNet", [("given", d)]⟩ S) : u_check_net [d] S q x := by
  rw [e_u_check_net, e_b_check_net]
  simp only [e_mNext, e_mSeq, e_mExpr, e_mRet, e_mRetN, e_mIfS, e_mBreak, e_mCont, e_mAsg, e_mPar, e_gmName, e_gmNil, e_gmCons, e_gmTup, e_gmSub, e_mVar, e_mC, e_mOp, e_mtB, e_mtT, e_mtNot, e_mtAnd, e_mtOr, e_mAnd, e_mOr, e_mAndT, e_mOrT, e_mIf, e_mNotB, e_mChain, e_maNil, e_maCons, e_mTup, e_mLst, e_mCall, e_mFld, e_mProp, e_mMeth, e_mMake, e_mSetF, e_mUnO, e_mBinO, e_mCallO, e_mCMeth, e_mRaise, e_mTry, e_mFn, e_mNeg, e_mIsiB, e_mIsiO, e_mFor, e_miRange1, e_miRange2, e_miTup, e_miLst, e_body, e_addII, e_addIB, e_addSS, e_addTT, e_addRR, e_subII, e_mulII, e_fdivII, e_modII, e_powII, e_ltII, e_leII, e_gtII, e_geII, e_is, e_isNot, e_ixT, e_ixR, e_ixS, e_ixD, e_inD, e_isIns, e_fLenS, e_fLenT, e_fLenR, e_fMax2, e_fMin2, e_fAbs, e_fIntI, e_fIntB, e_fBoolI, e_fBoolB, e_mExcF, e_tryNil, e_tryCons, e_mBM, e_append, e_extend, e_gmUnl, e_mEqO, e_mNeO, e_fLenO, e_fBoolO, e_mtTO, e_mInO, e_mNotInO, e_mGetO, e_mComp, e_mtYes, putD, List.getElem?_cons_zero, List.getElem?_cons_succ, List.set_cons_zero, List.set_cons_succ, List.map_cons, List.map_nil, List.length_cons, List.length_nil, List.cons_append, List.nil_append, List.append_nil, List.replicate, Nat.reduceAdd, Nat.reduceSub, Nat.reduceLeDiff, Nat.zero_add, true_and, and_true, reduceIte, Bool.false_eq_true, Bool.true_eq_false, Bool.not_true, Bool.not_false]
  refine is_net_ok o ?_
  cases e : netD d with
  | true => simpa using h1 e
  | false => simpa using h2 e
theorem heading_count_ok {z : Str} (hz : Net z) (h : q (.int (hc z)) S) : u_heading_count [.str z] S q x := by
  rw [e_u_heading_count, e_b_heading_count]
  simp only [e_mNext, e_mSeq, e_mExpr, e_mRet, e_mRetN, e_mIfS, e_mBreak, e_mCont, e_mAsg, e_mPar, e_gmName, e_gmNil, e_gmCons, e_gmTup, e_gmSub, e_mVar, e_mC, e_mOp, e_mtB, e_mtT, e_mtNot, e_mtAnd, e_mtOr, e_mAnd, e_mOr, e_mAndT, e_mOrT, e_mIf, e_mNotB, e_mChain, e_maNil, e_maCons, e_mTup, e_mLst, e_mCall, e_mFld, e_mProp, e_mMeth, e_mMake, e_mSetF, e_mUnO, e_mBinO, e_mCallO, e_mCMeth, e_mRaise, e_mTry, e_mFn, e_mNeg, e_mIsiB, e_mIsiO, e_mFor, e_miRange1, e_miRange2, e_miTup, e_miLst, e_body, e_addII, e_addIB, e_addSS, e_addTT, e_addRR, e_subII, e_mulII, e_fdivII, e_modII, e_powII, e_ltII, e_leII, e_gtII, e_geII, e_is, e_isNot, e_ixT, e_ixR, e_ixS, e_ixD, e_inD, e_isIns, e_fLenS, e_fLenT, e_fLenR, e_fMax2, e_fMin2, e_fAbs, e_fIntI, e_fIntB, e_fBoolI, e_fBoolB, e_mExcF, e_tryNil, e_tryCons, e_mBM, e_append, e_extend, e_gmUnl, e_mEqO, e_mNeO, e_fLenO, e_fBoolO, e_mtTO, e_mInO, e_mNotInO, e_mGetO, e_mComp, e_mtYes, putD, List.getElem?_cons_zero, List.getElem?_cons_succ, List.set_cons_zero, List.set_cons_succ, List.map_cons, List.map_nil, List.length_cons, List.length_nil, List.cons_append, List.nil_append, List.append_nil, List.replicate, Nat.reduceAdd, Nat.reduceSub, Nat.reduceLeDiff, Nat.zero_add, true_and, and_true, reduceIte, Bool.false_eq_true, Bool.true_eq_false, Bool.not_true, Bool.not_false]
  rcases hz with rfl | rfl
  · simpa [tab_STEPS, List.lookup, hc_sq, e_fLenT] using h
  · have e : (("triangle" : Str) == "square") = false := by decide
    simpa [tab_STEPS, List.lookup, hc_tri, e, e_fLenT] using h
theorem net_true {z : Str} (hz : Net z) : netD (.str z) = true := by
  rcases hz with rfl | rfl <;> simp [netD]
theorem added_ok {a b a' b' : Int} (h : q (.tup [.int (a + a'), .int (b + b')]) S) : u_added [.tup [.int a, .int b], .tup [.int a', .int b']] S q x := by
  rw [e_u_added, e_b_added]
  simp only [e_mNext, e_mSeq, e_mExpr, e_mRet, e_mRetN, e_mIfS, e_mBreak, e_mCont, e_mAsg, e_mPar, e_gmName, e_gmNil, e_gmCons, e_gmTup, e_gmSub, e_mVar, e_mC, e_mOp, e_mtB, e_mtT, e_mtNot, e_mtAnd, e_mtOr, e_mAnd, e_mOr, e_mAndT, e_mOrT, e_mIf, e_mNotB, e_mChain, e_maNil, e_maCons, e_mTup, e_mLst, e_mCall, e_mFld, e_mProp, e_mMeth, e_mMake, e_mSetF, e_mUnO, e_mBinO, e_mCallO, e_mCMeth, e_mRaise, e_mTry, e_mFn, e_mNeg, e_mIsiB, e_mIsiO, e_mFor, e_miRange1, e_miRange2, e_miTup, e_miLst, e_body, e_addII, e_addIB, e_addSS, e_addTT, e_addRR, e_subII, e_mulII, e_fdivII, e_modII, e_powII, e_ltII, e_leII, e_gtII, e_geII, e_is, e_isNot, e_ixT, e_ixR, e_ixS, e_ixD, e_inD, e_isIns, e_fLenS, e_fLenT, e_fLenR, e_fMax2, e_fMin2, e_fAbs, e_fIntI, e_fIntB, e_fBoolI, e_fBoolB, e_mExcF, e_tryNil, e_tryCons, e_mBM, e_append, e_extend, e_gmUnl, e_mEqO, e_mNeO, e_fLenO, e_fBoolO, e_mtTO, e_mInO, e_mNotInO, e_mGetO, e_mComp, e_mtYes, putD, List.getElem?_cons_zero, List.getElem?_cons_succ, List.set_cons_zero, List.set_cons_succ, List.map_cons, List.map_nil, List.length_cons, List.length_nil, List.cons_append, List.nil_append, List.append_nil, List.replicate, Nat.reduceAdd, Nat.reduceSub, Nat.reduceLeDiff, Nat.zero_add, true_and, and_true, reduceIte, Bool.false_eq_true, Bool.true_eq_false, Bool.not_true, Bool.not_false]
  simp [L2.atI, L2.ixN]
  exact ⟨sl_pos (by decide), h⟩
theorem scaled_ok {a b k : Int} (h1 : CMul a k ∨ CMulW a k) (h2 : CMul b k ∨ CMulW b k) (h : q (.tup [.int (a * k), .int (b * k)]) S) : u_scaled [.tup [.int a, .int b], .int k] S q x := by
  rw [e_u_scaled, e_b_scaled]
  simp only [e_mNext, e_mSeq, e_mExpr, e_mRet, e_mRetN, e_mIfS, e_mBreak, e_mCont, e_mAsg, e_mPar, e_gmName, e_gmNil, e_gmCons, e_gmTup, e_gmSub, e_mVar, e_mC, e_mOp, e_mtB, e_mtT, e_mtNot, e_mtAnd, e_mtOr, e_mAnd, e_mOr, e_mAndT, e_mOrT, e_mIf, e_mNotB, e_mChain, e_maNil, e_maCons, e_mTup, e_mLst, e_mCall, e_mFld, e_mProp, e_mMeth, e_mMake, e_mSetF, e_mUnO, e_mBinO, e_mCallO, e_mCMeth, e_mRaise, e_mTry, e_mFn, e_mNeg, e_mIsiB, e_mIsiO, e_mFor, e_miRange1, e_miRange2, e_miTup, e_miLst, e_body, e_addII, e_addIB, e_addSS, e_addTT, e_addRR, e_subII, e_mulII, e_fdivII, e_modII, e_powII, e_ltII, e_leII, e_gtII, e_geII, e_is, e_isNot, e_ixT, e_ixR, e_ixS, e_ixD, e_inD, e_isIns, e_fLenS, e_fLenT, e_fLenR, e_fMax2, e_fMin2, e_fAbs, e_fIntI, e_fIntB, e_fBoolI, e_fBoolB, e_mExcF, e_tryNil, e_tryCons, e_mBM, e_append, e_extend, e_gmUnl, e_mEqO, e_mNeO, e_fLenO, e_fBoolO, e_mtTO, e_mInO, e_mNotInO, e_mGetO, e_mComp, e_mtYes, putD, List.getElem?_cons_zero, List.getElem?_cons_succ, List.set_cons_zero, List.set_cons_succ, List.map_cons, List.map_nil, List.length_cons, List.length_nil, List.cons_append, List.nil_append, List.append_nil, List.replicate, Nat.reduceAdd, Nat.reduceSub, Nat.reduceLeDiff, Nat.zero_add, true_and, and_true, reduceIte, Bool.false_eq_true, Bool.true_eq_false, Bool.not_true, Bool.not_false]
  simp [L2.atI, L2.ixN]
  exact ⟨h1, h2, sl_pos (by decide), h⟩
end
/-! ### turning -/
def rot1 (z : Str) (p : Int × Int) : Int × Int := if z = "square" then (-p.2, p.1) else (-p.2, p.1 + p.2)
def rotN (z : Str) : Nat → Int × Int → Int × Int
  | 0, p => p
  | n + 1, p => rotN z n (rot1 z p)
theorem strOk_sq : PyData.strOk "square" = true := by decide +kernel
theorem mEq_net {S : Sto} {z : Str} {q : QD} (hz : Net z) (h : q (.bl (decide (z = "square"))) S) : mEq (.str z) (.str "square") S q := by
  rcases hz with rfl | rfl
  · exact mEq_of (a := .str "square") (b := .str "square") rfl rfl (by decide +kernel) (by decide +kernel) (by simpa [PyData.eqv] using h)
  · refine mEq_of (a := .str "triangle") (b := .str "square") rfl rfl (by decide +kernel) (by decide +kernel) ?_
    have e : (("triangle" : Str) == "square") = false := by decide
    have e2 : decide (("triangle" : Str) = "square") = false := by decide
    simpa [PyData.eqv, e, e2] using h
theorem turned_ok {S : Sto} {q : QD} {x : QX} {z : Str} {a b t : Int} (hz : Net z) (h0 : 0 ≤ t) (h1 : t < 2 ^ 62) (h : q (.tup [.int (rotN z t.toNat (a, b)).1, .int (rotN z t.toNat (a, b)).2]) S) : u_turned [.str z, .tup [.int a, .int b], .int t] S q x := by
  rw [e_u_turned, e_b_turned, e_b_turned_2, e_b_turned_1]
  simp only [e_mNext, e_mSeq, e_mExpr, e_mRet, e_mRetN, e_mIfS, e_mBreak, e_mCont, e_mAsg, e_mPar, e_gmName, e_gmNil, e_gmCons, e_gmTup, e_gmSub, e_mVar, e_mC, e_mOp, e_mtB, e_mtT, e_mtNot, e_mtAnd, e_mtOr, e_mAnd, e_mOr, e_mAndT, e_mOrT, e_mIf, e_mNotB, e_mChain, e_maNil, e_maCons, e_mTup, e_mLst, e_mCall, e_mFld, e_mProp, e_mMeth, e_mMake, e_mSetF, e_mUnO, e_mBinO, e_mCallO, e_mCMeth, e_mRaise, e_mTry, e_mFn, e_mNeg, e_mIsiB, e_mIsiO, e_mFor, e_miRange1, e_miRange2, e_miTup, e_miLst, e_body, e_addII, e_addIB, e_addSS, e_addTT, e_addRR, e_subII, e_mulII, e_fdivII, e_modII, e_powII, e_ltII, e_leII, e_gtII, e_geII, e_is, e_isNot, e_ixT, e_ixR, e_ixS, e_ixD, e_inD, e_isIns, e_fLenS, e_fLenT, e_fLenR, e_fMax2, e_fMin2, e_fAbs, e_fIntI, e_fIntB, e_fBoolI, e_fBoolB, e_mExcF, e_tryNil, e_tryCons, e_mBM, e_append, e_extend, e_gmUnl, e_mEqO, e_mNeO, e_fLenO, e_fBoolO, e_mtTO, e_mInO, e_mNotInO, e_mGetO, e_mComp, e_mtYes, putD, List.getElem?_cons_zero, List.getElem?_cons_succ, List.set_cons_zero, List.set_cons_succ, List.map_cons, List.map_nil, List.length_cons, List.length_nil, List.cons_append, List.nil_append, List.append_nil, List.replicate, Nat.reduceAdd, Nat.reduceSub, Nat.reduceLeDiff, Nat.zero_add, true_and, and_true, reduceIte, Bool.false_eq_true, Bool.true_eq_false, Bool.not_true, Bool.not_false]
  refine ⟨⟨by omega, h1⟩, ?_⟩
  refine forL_ind (fun items sd S' => S' = S ∧ ∃ (p : Int × Int) (c : Option D), sd = [some (.str z), some (.tup [.int a, .int b]), some (.int t), some (.int p.1), some (.int p.2), c] ∧ rotN z items.length p = rotN z t.toNat (a, b)) ?_ ?_ _ _ _ ⟨rfl, (a, b), none, rfl, by rw [rangeD_len]⟩
  · rintro sd S' ⟨rfl, p, c, rfl, e⟩
    simp only [e_mNext, e_mSeq, e_mExpr, e_mRet, e_mRetN, e_mIfS, e_mBreak, e_mCont, e_mAsg, e_mPar, e_gmName, e_gmNil, e_gmCons, e_gmTup, e_gmSub, e_mVar, e_mC, e_mOp, e_mtB, e_mtT, e_mtNot, e_mtAnd, e_mtOr, e_mAnd, e_mOr, e_mAndT, e_mOrT, e_mIf, e_mNotB, e_mChain, e_maNil, e_maCons, e_mTup, e_mLst, e_mCall, e_mFld, e_mProp, e_mMeth, e_mMake, e_mSetF, e_mUnO, e_mBinO, e_mCallO, e_mCMeth, e_mRaise, e_mTry, e_mFn, e_mNeg, e_mIsiB, e_mIsiO, e_mFor, e_miRange1, e_miRange2, e_miTup, e_miLst, e_body, e_addII, e_addIB, e_addSS, e_addTT, e_addRR, e_subII, e_mulII, e_fdivII, e_modII, e_powII, e_ltII, e_leII, e_gtII, e_geII, e_is, e_isNot, e_ixT, e_ixR, e_ixS, e_ixD, e_inD, e_isIns, e_fLenS, e_fLenT, e_fLenR, e_fMax2, e_fMin2, e_fAbs, e_fIntI, e_fIntB, e_fBoolI, e_fBoolB, e_mExcF, e_tryNil, e_tryCons, e_mBM, e_append, e_extend, e_gmUnl, e_mEqO, e_mNeO, e_fLenO, e_fBoolO, e_mtTO, e_mInO, e_mNotInO, e_mGetO, e_mComp, e_mtYes, putD, List.getElem?_cons_zero, List.getElem?_cons_succ, List.set_cons_zero, List.set_cons_succ, List.map_cons, List.map_nil, List.length_cons, List.length_nil, List.cons_append, List.nil_append, List.append_nil, List.replicate, Nat.reduceAdd, Nat.reduceSub, Nat.reduceLeDiff, Nat.zero_add, true_and, and_true, reduceIte, Bool.false_eq_true, Bool.true_eq_false, Bool.not_true, Bool.not_false]
    simp only [List.length_nil, rotN] at e
    refine ⟨sl_pos (by decide), ?_⟩
    rw [← e] at h
    exact h
  · rintro d ds sd S' ⟨rfl, p, c, rfl, e⟩ ih
    simp only [e_mNext, e_mSeq, e_mExpr, e_mRet, e_mRetN, e_mIfS, e_mBreak, e_mCont, e_mAsg, e_mPar, e_gmName, e_gmNil, e_gmCons, e_gmTup, e_gmSub, e_mVar, e_mC, e_mOp, e_mtB, e_mtT, e_mtNot, e_mtAnd, e_mtOr, e_mAnd, e_mOr, e_mAndT, e_mOrT, e_mIf, e_mNotB, e_mChain, e_maNil, e_maCons, e_mTup, e_mLst, e_mCall, e_mFld, e_mProp, e_mMeth, e_mMake, e_mSetF, e_mUnO, e_mBinO, e_mCallO, e_mCMeth, e_mRaise, e_mTry, e_mFn, e_mNeg, e_mIsiB, e_mIsiO, e_mFor, e_miRange1, e_miRange2, e_miTup, e_miLst, e_body, e_addII, e_addIB, e_addSS, e_addTT, e_addRR, e_subII, e_mulII, e_fdivII, e_modII, e_powII, e_ltII, e_leII, e_gtII, e_geII, e_is, e_isNot, e_ixT, e_ixR, e_ixS, e_ixD, e_inD, e_isIns, e_fLenS, e_fLenT, e_fLenR, e_fMax2, e_fMin2, e_fAbs, e_fIntI, e_fIntB, e_fBoolI, e_fBoolB, e_mExcF, e_tryNil, e_tryCons, e_mBM, e_append, e_extend, e_gmUnl, e_mEqO, e_mNeO, e_fLenO, e_fBoolO, e_mtTO, e_mInO, e_mNotInO, e_mGetO, e_mComp, e_mtYes, putD, List.getElem?_cons_zero, List.getElem?_cons_succ, List.set_cons_zero, List.set_cons_succ, List.map_cons, List.map_nil, List.length_cons, List.length_nil, List.cons_append, List.nil_append, List.append_nil, List.replicate, Nat.reduceAdd, Nat.reduceSub, Nat.reduceLeDiff, Nat.zero_add, true_and, and_true, reduceIte, Bool.false_eq_true, Bool.true_eq_false, Bool.not_true, Bool.not_false]
    refine mEq_net hz ?_
    by_cases ez : z = "square"
    · simp only [ez, decide_true, reduceIte]
      refine ⟨sl_pos (by decide), ?_⟩
      have e1 : rot1 z p = (-p.2, p.1) := by unfold rot1; rw [if_pos ez]
      simp only [List.length_cons, rotN, e1] at e
      subst ez
      exact ih _ _ ⟨rfl, (-p.2, p.1), some d, rfl, e⟩
    · simp only [ez, decide_false, Bool.false_eq_true, reduceIte]
      refine ⟨sl_pos (by decide), ?_⟩
      have e1 : rot1 z p = (-p.2, p.1 + p.2) := by unfold rot1; rw [if_neg ez]
      simp only [List.length_cons, rotN, e1] at e
      exact ih _ _ ⟨rfl, (-p.2, p.1 + p.2), some d, rfl, e⟩
end Lw

namespace Lw
open PySem PySem.Spec PyProof.Rows L2

/-! ### the law's source of numbers -/
def Src (S : Sto) (n : Nat) : Prop := ∃ a b : Int, S[n]? = some (.lst [.int a, .int b]) ∧ 0 ≤ a ∧ 0 ≤ b ∧ b < 2147483647
/-- all that was there stands, but for the cell n -/
structure Frx (n : Nat) (S S' : Sto) : Prop where
  len : S.length ≤ S'.length
  at_ : ∀ i, i < S.length → i ≠ n → S'[i]? = S[i]?
theorem Frx.refl {n : Nat} {S : Sto} : Frx n S S := ⟨Nat.le_refl _, fun _ _ _ => rfl⟩
theorem Frx.trans {n : Nat} {S S' S'' : Sto} (a : Frx n S S') (b : Frx n S' S'') : Frx n S S'' :=
  ⟨Nat.le_trans a.len b.len, fun i h1 h2 => (b.at_ i (Nat.lt_of_lt_of_le h1 a.len) h2).trans (a.at_ i h1 h2)⟩
theorem Frx.set {n : Nat} {S : Sto} {o : O} : Frx n S (S.set n o) := ⟨by simp, fun i _ h => List.getElem?_set_ne (Ne.symm h)⟩
theorem Frx.app {n : Nat} {S T : Sto} : Frx n S (S ++ T) := ⟨by simp, fun i h _ => List.getElem?_append_left h⟩
theorem Frx.get {n i : Nat} {S S' : Sto} {o : O} (a : Frx n S S') (h : S[i]? = some o) (hi : i ≠ n) : S'[i]? = some o :=
  (a.at_ i (List.getElem?_eq_some_iff.mp h).1 hi).trans h
theorem Src.lt {S : Sto} {n : Nat} (h : Src S n) : n < S.length := let ⟨_, _, h, _⟩ := h; (List.getElem?_eq_some_iff.mp h).1
theorem Src.app {S T : Sto} {n : Nat} (h : Src S n) : Src (S ++ T) n := by
  obtain ⟨a, b, h1, h2⟩ := id h
  exact ⟨a, b, by rw [List.getElem?_append_left h.lt]; exact h1, h2⟩
theorem Src.set {S : Sto} {n : Nat} {a b : Int} (h : n < S.length) (h1 : 0 ≤ a) (h2 : 0 ≤ b) (h3 : b < 2147483647) : Src (S.set n (.lst [.int a, .int b])) n :=
  ⟨a, b, List.getElem?_set_self h, h1, h2, h3⟩
theorem cmul_l {i j : Int} (h1 : -18446744073709551616 < i) (h2 : i < 18446744073709551616) : CMul i j ∨ CMulW i j := .inl (.inl ⟨by simpa using h1, by simpa using h2⟩)
theorem cmul_r {i j : Int} (h1 : -18446744073709551616 < j) (h2 : j < 18446744073709551616) : CMul i j ∨ CMulW i j := .inl (.inr ⟨by simpa using h1, by simpa using h2⟩)
theorem ix0 {a b : D} : L2.atI [a, b] 0 = some a := rfl
theorem ix1 {a b : D} : L2.atI [a, b] 1 = some b := rfl
theorem ixn0 : L2.ixN 2 0 = some 0 := rfl
theorem ixn1 : L2.ixN 2 1 = some 1 := rfl
section
variable {S : Sto} {q : QD} {x : QX} {n : Nat} {k : Int}
theorem draw_ok (h : Src S n) (hk : 0 < k) (hk2 : k.natAbs.log2 < 9000) (hq : ∀ d S', 0 ≤ d → d < k → Frx n S S' → S'.length = S.length → Src S' n → q (.int d) S') : u__law_draw [.ref n, .int k] S q x := by
  obtain ⟨a, b, e, ha, hb, hb2⟩ := id h
  have hl := h.lt
  rw [e_u__law_draw, e_b__law_draw, e_b__law_draw_3, e_b__law_draw_2, e_b__law_draw_1]
  simp only [e_mNext, e_mSeq, e_mExpr, e_mRet, e_mRetN, e_mIfS, e_mBreak, e_mCont, e_mAsg, e_mPar, e_gmName, e_gmNil, e_gmCons, e_gmTup, e_gmSub, e_mVar, e_mC, e_mOp, e_mtB, e_mtT, e_mtNot, e_mtAnd, e_mtOr, e_mAnd, e_mOr, e_mAndT, e_mOrT, e_mIf, e_mNotB, e_mChain, e_maNil, e_maCons, e_mTup, e_mLst, e_mCall, e_mFld, e_mProp, e_mMeth, e_mMake, e_mSetF, e_mUnO, e_mBinO, e_mCallO, e_mCMeth, e_mRaise, e_mTry, e_mFn, e_mNeg, e_mIsiB, e_mIsiO, e_mFor, e_miRange1, e_miRange2, e_miTup, e_miLst, e_body, e_addII, e_addIB, e_addSS, e_addTT, e_addRR, e_subII, e_mulII, e_fdivII, e_modII, e_powII, e_ltII, e_leII, e_gtII, e_geII, e_is, e_isNot, e_ixT, e_ixR, e_ixS, e_ixD, e_inD, e_isIns, e_fLenS, e_fLenT, e_fLenR, e_fMax2, e_fMin2, e_fAbs, e_fIntI, e_fIntB, e_fBoolI, e_fBoolB, e_mExcF, e_tryNil, e_tryCons, e_mBM, e_append, e_extend, e_gmUnl, e_mEqO, e_mNeO, e_fLenO, e_fBoolO, e_mtTO, e_mInO, e_mNotInO, e_mGetO, e_mComp, e_mtYes, putD, List.getElem?_cons_zero, List.getElem?_cons_succ, List.set_cons_zero, List.set_cons_succ, List.map_cons, List.map_nil, List.length_cons, List.length_nil, List.cons_append, List.nil_append, List.append_nil, List.replicate, Nat.reduceAdd, Nat.reduceSub, Nat.reduceLeDiff, Nat.zero_add, true_and, and_true, reduceIte, Bool.false_eq_true, Bool.true_eq_false, Bool.not_true, Bool.not_false, seqO, lstO, e, ix0, ix1, ixn0, ixn1]
  by_cases hp : 0 < a
  · simp only [hp, decide_true, reduceIte]
    refine ⟨hk, ⟨hk, hk2⟩, ?_⟩
    exact hq _ _ (Int.emod_nonneg _ (by omega)) (Int.emod_lt_of_pos _ hk) Frx.set (by simp) (Src.set hl (Int.ediv_nonneg ha (by omega)) hb hb2)
  · simp only [hp, decide_false, Bool.false_eq_true, reduceIte]
    refine ⟨cmul_r (by decide) (by decide), by decide, ?_⟩
    have e2 : (S.set n (O.lst [D.int a, D.int ((b * 48271 + 11) % 2147483647)]))[n]? = some (O.lst [D.int a, D.int ((b * 48271 + 11) % 2147483647)]) := List.getElem?_set_self hl
    simp only [e2, ix1]
    have h0 : 0 ≤ (b * 48271 + 11) % 2147483647 := Int.emod_nonneg _ (by decide)
    have h1 : (b * 48271 + 11) % 2147483647 < 2147483647 := Int.emod_lt_of_pos _ (by decide)
    refine ⟨cmul_r (by omega) (by omega), by decide, ⟨by decide, by decide⟩, hk, ?_⟩
    exact hq _ _ (Int.emod_nonneg _ (by omega)) (Int.emod_lt_of_pos _ hk) Frx.set (by simp) (Src.set hl ha h0 h1)
theorem seqO_app {S : Sto} {ds : List D} : seqO (S ++ [.lst ds]) S.length = some ds := by simp [seqO]
theorem source_ok {s : Nat} {ns : List Int} (hs : S[s]? = some (.frz (ns.map .int))) (h0 : 0 ≤ k) (hq : ∀ o, Src (S ++ [o]) S.length → q (.ref S.length) (S ++ [o])) : u__law_source [.ref s, .int k] S q x := by
  rw [e_u__law_source, e_b__law_source, e_b__law_source_4, e_b__law_source_3, e_b__law_source_2, e_b__law_source_1]
  simp only [e_mNext, e_mSeq, e_mExpr, e_mRet, e_mRetN, e_mIfS, e_mBreak, e_mCont, e_mAsg, e_mPar, e_gmName, e_gmNil, e_gmCons, e_gmTup, e_gmSub, e_mVar, e_mC, e_mOp, e_mtB, e_mtT, e_mtNot, e_mtAnd, e_mtOr, e_mAnd, e_mOr, e_mAndT, e_mOrT, e_mIf, e_mNotB, e_mChain, e_maNil, e_maCons, e_mTup, e_mLst, e_mCall, e_mFld, e_mProp, e_mMeth, e_mMake, e_mSetF, e_mUnO, e_mBinO, e_mCallO, e_mCMeth, e_mRaise, e_mTry, e_mFn, e_mNeg, e_mIsiB, e_mIsiO, e_mFor, e_miRange1, e_miRange2, e_miTup, e_miLst, e_body, e_addII, e_addIB, e_addSS, e_addTT, e_addRR, e_subII, e_mulII, e_fdivII, e_modII, e_powII, e_ltII, e_leII, e_gtII, e_geII, e_is, e_isNot, e_ixT, e_ixR, e_ixS, e_ixD, e_inD, e_isIns, e_fLenS, e_fLenT, e_fLenR, e_fMax2, e_fMin2, e_fAbs, e_fIntI, e_fIntB, e_fBoolI, e_fBoolB, e_mExcF, e_tryNil, e_tryCons, e_mBM, e_append, e_extend, e_gmUnl, e_mEqO, e_mNeO, e_fLenO, e_fBoolO, e_mtTO, e_mInO, e_mNotInO, e_mGetO, e_mComp, e_mtYes, putD, List.getElem?_cons_zero, List.getElem?_cons_succ, List.set_cons_zero, List.set_cons_succ, List.map_cons, List.map_nil, List.length_cons, List.length_nil, List.cons_append, List.nil_append, List.append_nil, List.replicate, Nat.reduceAdd, Nat.reduceSub, Nat.reduceLeDiff, Nat.zero_add, true_and, and_true, reduceIte, Bool.false_eq_true, Bool.true_eq_false, Bool.not_true, Bool.not_false, seqO, hs]
  have tail : ∀ m : Int, 0 ≤ m → ∀ m', (m' = 0 ∨ m' = m) → q (.ref S.length) (S ++ [O.lst [D.int m', D.int ((m % 2147483629 * 16807 + 104729 * k + 11) % 2147483647)]]) := fun m hm m' h => by
    refine hq _ ⟨_, _, by simp; exact ⟨rfl, rfl⟩, ?_, Int.emod_nonneg _ (by decide), Int.emod_lt_of_pos _ (by decide)⟩
    rcases h with rfl | rfl
    · decide
    · exact hm
  have c2 : ∀ m : Int, (CMul (m % 2147483629) 16807 ∨ CMulW (m % 2147483629) 16807) := fun m => cmul_r (by decide) (by decide)
  have c3 : (CMul 104729 k ∨ CMulW 104729 k) := cmul_l (by decide) (by decide)
  have cp : CPow 10 18 := ⟨by decide, by decide, by decide⟩
  have two : (2 : Nat) ≤ sizeLine := sl_pos (by decide)
  have nn : ∀ c : Int, 0 ≤ (if -1 - c > c then -1 - c else c) := fun c => by split <;> omega
  by_cases hl : k < ((ns.map D.int).length : Int)
  · simp only [hl, decide_true, reduceIte]
    have hi : ∃ c, L2.atI (ns.map D.int) k = some (.int c) := by
      have hl' : k.toNat < ns.length := by simp at hl; omega
      refine ⟨ns[k.toNat], ?_⟩
      unfold L2.atI L2.ixN
      simp at hl
      have e1 : (0 ≤ k ∧ k < (ns.length : Int)) := ⟨h0, by omega⟩
      simp [e1, h0, hl']
    obtain ⟨c, ec⟩ := hi
    simp only [ec, e_mNext, e_mSeq, e_mExpr, e_mRet, e_mRetN, e_mIfS, e_mBreak, e_mCont, e_mAsg, e_mPar, e_gmName, e_gmNil, e_gmCons, e_gmTup, e_gmSub, e_mVar, e_mC, e_mOp, e_mtB, e_mtT, e_mtNot, e_mtAnd, e_mtOr, e_mAnd, e_mOr, e_mAndT, e_mOrT, e_mIf, e_mNotB, e_mChain, e_maNil, e_maCons, e_mTup, e_mLst, e_mCall, e_mFld, e_mProp, e_mMeth, e_mMake, e_mSetF, e_mUnO, e_mBinO, e_mCallO, e_mCMeth, e_mRaise, e_mTry, e_mFn, e_mNeg, e_mIsiB, e_mIsiO, e_mFor, e_miRange1, e_miRange2, e_miTup, e_miLst, e_body, e_addII, e_addIB, e_addSS, e_addTT, e_addRR, e_subII, e_mulII, e_fdivII, e_modII, e_powII, e_ltII, e_leII, e_gtII, e_geII, e_is, e_isNot, e_ixT, e_ixR, e_ixS, e_ixD, e_inD, e_isIns, e_fLenS, e_fLenT, e_fLenR, e_fMax2, e_fMin2, e_fAbs, e_fIntI, e_fIntB, e_fBoolI, e_fBoolB, e_mExcF, e_tryNil, e_tryCons, e_mBM, e_append, e_extend, e_gmUnl, e_mEqO, e_mNeO, e_fLenO, e_fBoolO, e_mtTO, e_mInO, e_mNotInO, e_mGetO, e_mComp, e_mtYes, putD, List.getElem?_cons_zero, List.getElem?_cons_succ, List.set_cons_zero, List.set_cons_succ, List.map_cons, List.map_nil, List.length_cons, List.length_nil, List.cons_append, List.nil_append, List.append_nil, List.replicate, Nat.reduceAdd, Nat.reduceSub, Nat.reduceLeDiff, Nat.zero_add, true_and, and_true, reduceIte, Bool.false_eq_true, Bool.true_eq_false, Bool.not_true, Bool.not_false]
    have hn := nn c
    generalize (if -1 - c > c then -1 - c else c) = m at hn ⊢
    refine ⟨by decide, c2 m, c3, by decide, cp, ?_⟩
    by_cases z : m < 10 ^ (18 : Int).toNat
    · simp only [z, decide_true, e_mNext, e_mSeq, e_mExpr, e_mRet, e_mRetN, e_mIfS, e_mBreak, e_mCont, e_mAsg, e_mPar, e_gmName, e_gmNil, e_gmCons, e_gmTup, e_gmSub, e_mVar, e_mC, e_mOp, e_mtB, e_mtT, e_mtNot, e_mtAnd, e_mtOr, e_mAnd, e_mOr, e_mAndT, e_mOrT, e_mIf, e_mNotB, e_mChain, e_maNil, e_maCons, e_mTup, e_mLst, e_mCall, e_mFld, e_mProp, e_mMeth, e_mMake, e_mSetF, e_mUnO, e_mBinO, e_mCallO, e_mCMeth, e_mRaise, e_mTry, e_mFn, e_mNeg, e_mIsiB, e_mIsiO, e_mFor, e_miRange1, e_miRange2, e_miTup, e_miLst, e_body, e_addII, e_addIB, e_addSS, e_addTT, e_addRR, e_subII, e_mulII, e_fdivII, e_modII, e_powII, e_ltII, e_leII, e_gtII, e_geII, e_is, e_isNot, e_ixT, e_ixR, e_ixS, e_ixD, e_inD, e_isIns, e_fLenS, e_fLenT, e_fLenR, e_fMax2, e_fMin2, e_fAbs, e_fIntI, e_fIntB, e_fBoolI, e_fBoolB, e_mExcF, e_tryNil, e_tryCons, e_mBM, e_append, e_extend, e_gmUnl, e_mEqO, e_mNeO, e_fLenO, e_fBoolO, e_mtTO, e_mInO, e_mNotInO, e_mGetO, e_mComp, e_mtYes, putD, List.getElem?_cons_zero, List.getElem?_cons_succ, List.set_cons_zero, List.set_cons_succ, List.map_cons, List.map_nil, List.length_cons, List.length_nil, List.cons_append, List.nil_append, List.append_nil, List.replicate, Nat.reduceAdd, Nat.reduceSub, Nat.reduceLeDiff, Nat.zero_add, true_and, and_true, reduceIte, Bool.false_eq_true, Bool.true_eq_false, Bool.not_true, Bool.not_false]
      exact ⟨two, tail m hn 0 (.inl rfl)⟩
    · simp only [z, decide_false, e_mNext, e_mSeq, e_mExpr, e_mRet, e_mRetN, e_mIfS, e_mBreak, e_mCont, e_mAsg, e_mPar, e_gmName, e_gmNil, e_gmCons, e_gmTup, e_gmSub, e_mVar, e_mC, e_mOp, e_mtB, e_mtT, e_mtNot, e_mtAnd, e_mtOr, e_mAnd, e_mOr, e_mAndT, e_mOrT, e_mIf, e_mNotB, e_mChain, e_maNil, e_maCons, e_mTup, e_mLst, e_mCall, e_mFld, e_mProp, e_mMeth, e_mMake, e_mSetF, e_mUnO, e_mBinO, e_mCallO, e_mCMeth, e_mRaise, e_mTry, e_mFn, e_mNeg, e_mIsiB, e_mIsiO, e_mFor, e_miRange1, e_miRange2, e_miTup, e_miLst, e_body, e_addII, e_addIB, e_addSS, e_addTT, e_addRR, e_subII, e_mulII, e_fdivII, e_modII, e_powII, e_ltII, e_leII, e_gtII, e_geII, e_is, e_isNot, e_ixT, e_ixR, e_ixS, e_ixD, e_inD, e_isIns, e_fLenS, e_fLenT, e_fLenR, e_fMax2, e_fMin2, e_fAbs, e_fIntI, e_fIntB, e_fBoolI, e_fBoolB, e_mExcF, e_tryNil, e_tryCons, e_mBM, e_append, e_extend, e_gmUnl, e_mEqO, e_mNeO, e_fLenO, e_fBoolO, e_mtTO, e_mInO, e_mNotInO, e_mGetO, e_mComp, e_mtYes, putD, List.getElem?_cons_zero, List.getElem?_cons_succ, List.set_cons_zero, List.set_cons_succ, List.map_cons, List.map_nil, List.length_cons, List.length_nil, List.cons_append, List.nil_append, List.append_nil, List.replicate, Nat.reduceAdd, Nat.reduceSub, Nat.reduceLeDiff, Nat.zero_add, true_and, and_true, reduceIte, Bool.false_eq_true, Bool.true_eq_false, Bool.not_true, Bool.not_false]
      exact ⟨two, tail m hn m (.inr rfl)⟩
  · simp only [hl, decide_false, Bool.false_eq_true, reduceIte]
    have hn := nn 0
    generalize (if -1 - 0 > (0 : Int) then -1 - 0 else (0 : Int)) = m at hn ⊢
    refine ⟨by decide, c2 m, c3, by decide, cp, ?_⟩
    by_cases z : m < 10 ^ (18 : Int).toNat
    · simp only [z, decide_true, e_mNext, e_mSeq, e_mExpr, e_mRet, e_mRetN, e_mIfS, e_mBreak, e_mCont, e_mAsg, e_mPar, e_gmName, e_gmNil, e_gmCons, e_gmTup, e_gmSub, e_mVar, e_mC, e_mOp, e_mtB, e_mtT, e_mtNot, e_mtAnd, e_mtOr, e_mAnd, e_mOr, e_mAndT, e_mOrT, e_mIf, e_mNotB, e_mChain, e_maNil, e_maCons, e_mTup, e_mLst, e_mCall, e_mFld, e_mProp, e_mMeth, e_mMake, e_mSetF, e_mUnO, e_mBinO, e_mCallO, e_mCMeth, e_mRaise, e_mTry, e_mFn, e_mNeg, e_mIsiB, e_mIsiO, e_mFor, e_miRange1, e_miRange2, e_miTup, e_miLst, e_body, e_addII, e_addIB, e_addSS, e_addTT, e_addRR, e_subII, e_mulII, e_fdivII, e_modII, e_powII, e_ltII, e_leII, e_gtII, e_geII, e_is, e_isNot, e_ixT, e_ixR, e_ixS, e_ixD, e_inD, e_isIns, e_fLenS, e_fLenT, e_fLenR, e_fMax2, e_fMin2, e_fAbs, e_fIntI, e_fIntB, e_fBoolI, e_fBoolB, e_mExcF, e_tryNil, e_tryCons, e_mBM, e_append, e_extend, e_gmUnl, e_mEqO, e_mNeO, e_fLenO, e_fBoolO, e_mtTO, e_mInO, e_mNotInO, e_mGetO, e_mComp, e_mtYes, putD, List.getElem?_cons_zero, List.getElem?_cons_succ, List.set_cons_zero, List.set_cons_succ, List.map_cons, List.map_nil, List.length_cons, List.length_nil, List.cons_append, List.nil_append, List.append_nil, List.replicate, Nat.reduceAdd, Nat.reduceSub, Nat.reduceLeDiff, Nat.zero_add, true_and, and_true, reduceIte, Bool.false_eq_true, Bool.true_eq_false, Bool.not_true, Bool.not_false]
      exact ⟨two, tail m hn 0 (.inl rfl)⟩
    · simp only [z, decide_false, e_mNext, e_mSeq, e_mExpr, e_mRet, e_mRetN, e_mIfS, e_mBreak, e_mCont, e_mAsg, e_mPar, e_gmName, e_gmNil, e_gmCons, e_gmTup, e_gmSub, e_mVar, e_mC, e_mOp, e_mtB, e_mtT, e_mtNot, e_mtAnd, e_mtOr, e_mAnd, e_mOr, e_mAndT, e_mOrT, e_mIf, e_mNotB, e_mChain, e_maNil, e_maCons, e_mTup, e_mLst, e_mCall, e_mFld, e_mProp, e_mMeth, e_mMake, e_mSetF, e_mUnO, e_mBinO, e_mCallO, e_mCMeth, e_mRaise, e_mTry, e_mFn, e_mNeg, e_mIsiB, e_mIsiO, e_mFor, e_miRange1, e_miRange2, e_miTup, e_miLst, e_body, e_addII, e_addIB, e_addSS, e_addTT, e_addRR, e_subII, e_mulII, e_fdivII, e_modII, e_powII, e_ltII, e_leII, e_gtII, e_geII, e_is, e_isNot, e_ixT, e_ixR, e_ixS, e_ixD, e_inD, e_isIns, e_fLenS, e_fLenT, e_fLenR, e_fMax2, e_fMin2, e_fAbs, e_fIntI, e_fIntB, e_fBoolI, e_fBoolB, e_mExcF, e_tryNil, e_tryCons, e_mBM, e_append, e_extend, e_gmUnl, e_mEqO, e_mNeO, e_fLenO, e_fBoolO, e_mtTO, e_mInO, e_mNotInO, e_mGetO, e_mComp, e_mtYes, putD, List.getElem?_cons_zero, List.getElem?_cons_succ, List.set_cons_zero, List.set_cons_succ, List.map_cons, List.map_nil, List.length_cons, List.length_nil, List.cons_append, List.nil_append, List.append_nil, List.replicate, Nat.reduceAdd, Nat.reduceSub, Nat.reduceLeDiff, Nat.zero_add, true_and, and_true, reduceIte, Bool.false_eq_true, Bool.true_eq_false, Bool.not_true, Bool.not_false]
      exact ⟨two, tail m hn m (.inr rfl)⟩
end
end Lw

namespace Lw
open PySem PySem.Spec PyProof.Rows L2

/-! ### a store that grows -/
structure Ext (S S' : Sto) : Prop where
  len : S.length ≤ S'.length
  at_ : ∀ i, i < S.length → S'[i]? = S[i]?
theorem Ext.refl {S : Sto} : Ext S S := ⟨Nat.le_refl _, fun _ _ => rfl⟩
theorem Ext.trans {S S' S'' : Sto} (a : Ext S S') (b : Ext S' S'') : Ext S S'' := ⟨Nat.le_trans a.len b.len, fun i h => (b.at_ i (Nat.lt_of_lt_of_le h a.len)).trans (a.at_ i h)⟩
theorem Ext.app {S T : Sto} : Ext S (S ++ T) := ⟨by simp, fun i h => List.getElem?_append_left h⟩
theorem Ext.get {i : Nat} {S S' : Sto} {o : O} (a : Ext S S') (h : S[i]? = some o) : S'[i]? = some o := (a.at_ i (List.getElem?_eq_some_iff.mp h).1).trans h
theorem Ext.seq {n : Nat} {S S' : Sto} {ds : List D} (a : Ext S S') (h : seqO S n = some ds) : seqO S' n = some ds := by
  unfold seqO at h ⊢
  split at h
  · rename_i e; cases h; rw [a.get e]
  · rename_i e; cases h; rw [a.get e]
  · cases h
theorem treeL_mono {f g : D → Option PyData} (h : ∀ d p, f d = some p → g d = some p) : ∀ {ds : List D} {ps : List PyData}, treeL f ds = some ps → treeL g ds = some ps
  | [], _, e => e
  | d :: ds, ps, e => by
    unfold treeL at e ⊢
    split at e
    · rename_i a b ea eb
      cases e
      rw [h d a ea, treeL_mono h eb]
    · cases e
theorem Ext.tree {S S' : Sto} (a : Ext S S') : ∀ (k : Nat) (d : D) (p : PyData), tree k S d = some p → tree k S' d = some p
  | 0, d, p, h => by unfold Lw.tree at h; cases h
  | k + 1, d, p, h => by
    unfold Lw.tree at h ⊢
    cases d with
    | tup ds =>
      dsimp only at h ⊢
      cases e : treeL (Lw.tree k S) ds with
      | none => rw [e] at h; cases h
      | some ps => rw [e] at h; rw [treeL_mono (fun d p q => a.tree k d p q) e]; exact h
    | ref n =>
      dsimp only at h ⊢
      cases e : seqO S n with
      | none => rw [e] at h; cases h
      | some ds =>
        rw [e] at h
        rw [a.seq e]
        dsimp only [Option.bind] at h ⊢
        cases e2 : treeL (Lw.tree k S) ds with
        | none => rw [e2] at h; cases h
        | some ps => rw [e2] at h; rw [treeL_mono (fun d p q => a.tree k d p q) e2]; exact h
    | _ => exact h
theorem Ext.tyD {S S' : Sto} (a : Ext S S') {d : D} {t : Kd} (h : tyD S d = some t) : Lw.tyD S' d = some t := by
  cases d with
  | ref n =>
    unfold Lw.tyD at h ⊢
    dsimp only at h ⊢
    split at h
    · rename_i e; rw [a.get e]; exact h
    · rename_i e; rw [a.get e]; exact h
    · rename_i e; rw [a.get e]; exact h
    · cases h
  | _ => exact h
/-! ### drawn movements -/
section
variable {S : Sto} {q : QD} {x : QX} {n : Nat} {k : Int}
theorem log_lt {k : Int} (h : 0 < k) (h2 : k < 1000) : k.natAbs.log2 < 9000 := by
  have : k.natAbs < 2 ^ 10 := by omega
  have h3 := (Nat.log2_lt (by omega)).mpr this
  omega
theorem drw {S : Sto} {q : QD} {x : QX} {n : Nat} {k : Int} (h : Src S n) (hk : 0 < k) (h2 : k < 1000) (hq : ∀ d S', 0 ≤ d → d < k → Frx n S S' → Src S' n → q (.int d) S') : u__law_draw [.ref n, .int k] S q x :=
  draw_ok h hk (log_lt hk h2) fun d S' a b c _ e => hq d S' a b c e
theorem big_ok (h : Src S n) (hq : ∀ v S', 1 ≤ v → Frx n S S' → Src S' n → q (.int v) S') : u__law_big [.ref n] S q x := by
  have hl := h.lt
  rw [e_u__law_big, e_b__law_big, e_b__law_big_3, e_b__law_big_2, e_b__law_big_1]
  simp only [e_mNext, e_mSeq, e_mExpr, e_mRet, e_mRetN, e_mIfS, e_mBreak, e_mCont, e_mAsg, e_mPar, e_gmName, e_gmNil, e_gmCons, e_gmTup, e_gmSub, e_mVar, e_mC, e_mOp, e_mtB, e_mtT, e_mtNot, e_mtAnd, e_mtOr, e_mAnd, e_mOr, e_mAndT, e_mOrT, e_mIf, e_mNotB, e_mChain, e_maNil, e_maCons, e_mTup, e_mLst, e_mCall, e_mFld, e_mProp, e_mMeth, e_mMake, e_mSetF, e_mUnO, e_mBinO, e_mCallO, e_mCMeth, e_mRaise, e_mTry, e_mFn, e_mNeg, e_mIsiB, e_mIsiO, e_mFor, e_miRange1, e_miRange2, e_miTup, e_miLst, e_body, e_addII, e_addIB, e_addSS, e_addTT, e_addRR, e_subII, e_mulII, e_fdivII, e_modII, e_powII, e_ltII, e_leII, e_gtII, e_geII, e_is, e_isNot, e_ixT, e_ixR, e_ixS, e_ixD, e_inD, e_isIns, e_fLenS, e_fLenT, e_fLenR, e_fMax2, e_fMin2, e_fAbs, e_fIntI, e_fIntB, e_fBoolI, e_fBoolB, e_mExcF, e_tryNil, e_tryCons, e_mBM, e_append, e_extend, e_gmUnl, e_mEqO, e_mNeO, e_fLenO, e_fBoolO, e_mtTO, e_mInO, e_mNotInO, e_mGetO, e_mComp, e_mtYes, putD, List.getElem?_cons_zero, List.getElem?_cons_succ, List.set_cons_zero, List.set_cons_succ, List.map_cons, List.map_nil, List.length_cons, List.length_nil, List.cons_append, List.nil_append, List.append_nil, List.replicate, Nat.reduceAdd, Nat.reduceSub, Nat.reduceLeDiff, Nat.zero_add, true_and, and_true, reduceIte, Bool.false_eq_true, Bool.true_eq_false, Bool.not_true, Bool.not_false]
  refine ⟨sl_pos (by decide), ?_⟩
  refine drw h.app (by decide) (by decide) fun d S1 d0 d4 f1 s1 => ?_
  have e1 : S1[S.length]? = some (.lst [.int 1, .int 2, .int 9, .int 30]) := f1.get (by simp) (by omega)
  have f01 : Frx n S S1 := Frx.app.trans f1
  have key : ∀ g : Int, 1 ≤ g → g ≤ 30 → L2.atI [D.int 1, .int 2, .int 9, .int 30] d = some (.int g) → _ := fun g g1 g2 eg => (show ∃ g, L2.atI [D.int 1, .int 2, .int 9, .int 30] d = some (.int g) ∧ 1 ≤ g ∧ g ≤ 30 from ⟨g, eg, g1, g2⟩)
  have hg : ∃ g, L2.atI [D.int 1, .int 2, .int 9, .int 30] d = some (.int g) ∧ 1 ≤ g ∧ g ≤ 30 := by
    have : d = 0 ∨ d = 1 ∨ d = 2 ∨ d = 3 := by omega
    rcases this with rfl | rfl | rfl | rfl
    · exact key 1 (by decide) (by decide) rfl
    · exact key 2 (by decide) (by decide) rfl
    · exact key 9 (by decide) (by decide) rfl
    · exact key 30 (by decide) (by decide) rfl
  obtain ⟨g, eg, g1, g2⟩ := hg
  simp only [e_mNext, e_mSeq, e_mExpr, e_mRet, e_mRetN, e_mIfS, e_mBreak, e_mCont, e_mAsg, e_mPar, e_gmName, e_gmNil, e_gmCons, e_gmTup, e_gmSub, e_mVar, e_mC, e_mOp, e_mtB, e_mtT, e_mtNot, e_mtAnd, e_mtOr, e_mAnd, e_mOr, e_mAndT, e_mOrT, e_mIf, e_mNotB, e_mChain, e_maNil, e_maCons, e_mTup, e_mLst, e_mCall, e_mFld, e_mProp, e_mMeth, e_mMake, e_mSetF, e_mUnO, e_mBinO, e_mCallO, e_mCMeth, e_mRaise, e_mTry, e_mFn, e_mNeg, e_mIsiB, e_mIsiO, e_mFor, e_miRange1, e_miRange2, e_miTup, e_miLst, e_body, e_addII, e_addIB, e_addSS, e_addTT, e_addRR, e_subII, e_mulII, e_fdivII, e_modII, e_powII, e_ltII, e_leII, e_gtII, e_geII, e_is, e_isNot, e_ixT, e_ixR, e_ixS, e_ixD, e_inD, e_isIns, e_fLenS, e_fLenT, e_fLenR, e_fMax2, e_fMin2, e_fAbs, e_fIntI, e_fIntB, e_fBoolI, e_fBoolB, e_mExcF, e_tryNil, e_tryCons, e_mBM, e_append, e_extend, e_gmUnl, e_mEqO, e_mNeO, e_fLenO, e_fBoolO, e_mtTO, e_mInO, e_mNotInO, e_mGetO, e_mComp, e_mtYes, putD, List.getElem?_cons_zero, List.getElem?_cons_succ, List.set_cons_zero, List.set_cons_succ, List.map_cons, List.map_nil, List.length_cons, List.length_nil, List.cons_append, List.nil_append, List.append_nil, List.replicate, Nat.reduceAdd, Nat.reduceSub, Nat.reduceLeDiff, Nat.zero_add, true_and, and_true, reduceIte, Bool.false_eq_true, Bool.true_eq_false, Bool.not_true, Bool.not_false, seqO, e1, eg]
  refine drw s1 (by decide) (by decide) fun d2 S2 a0 a1 f2 s2 => ?_
  refine ⟨⟨by omega, by omega⟩, ?_⟩
  refine forL_ind (fun items sd S' => ∃ (v : Int) (c : Option D), sd = [some (.ref n), some (.int g), some (.int v), c] ∧ 1 ≤ v ∧ Frx n S S' ∧ Src S' n) ?_ ?_ _ _ _ ⟨d2 + 1, none, rfl, by omega, f01.trans f2, s2⟩
  · rintro sd S' ⟨v, c, rfl, hv, f, s⟩
    exact ⟨trivial, hq v S' hv f s⟩
  · rintro i is sd S' ⟨v, c, rfl, hv, f, s⟩ ih
    simp only [e_mNext, e_mSeq, e_mExpr, e_mRet, e_mRetN, e_mIfS, e_mBreak, e_mCont, e_mAsg, e_mPar, e_gmName, e_gmNil, e_gmCons, e_gmTup, e_gmSub, e_mVar, e_mC, e_mOp, e_mtB, e_mtT, e_mtNot, e_mtAnd, e_mtOr, e_mAnd, e_mOr, e_mAndT, e_mOrT, e_mIf, e_mNotB, e_mChain, e_maNil, e_maCons, e_mTup, e_mLst, e_mCall, e_mFld, e_mProp, e_mMeth, e_mMake, e_mSetF, e_mUnO, e_mBinO, e_mCallO, e_mCMeth, e_mRaise, e_mTry, e_mFn, e_mNeg, e_mIsiB, e_mIsiO, e_mFor, e_miRange1, e_miRange2, e_miTup, e_miLst, e_body, e_addII, e_addIB, e_addSS, e_addTT, e_addRR, e_subII, e_mulII, e_fdivII, e_modII, e_powII, e_ltII, e_leII, e_gtII, e_geII, e_is, e_isNot, e_ixT, e_ixR, e_ixS, e_ixD, e_inD, e_isIns, e_fLenS, e_fLenT, e_fLenR, e_fMax2, e_fMin2, e_fAbs, e_fIntI, e_fIntB, e_fBoolI, e_fBoolB, e_mExcF, e_tryNil, e_tryCons, e_mBM, e_append, e_extend, e_gmUnl, e_mEqO, e_mNeO, e_fLenO, e_fBoolO, e_mtTO, e_mInO, e_mNotInO, e_mGetO, e_mComp, e_mtYes, putD, List.getElem?_cons_zero, List.getElem?_cons_succ, List.set_cons_zero, List.set_cons_succ, List.map_cons, List.map_nil, List.length_cons, List.length_nil, List.cons_append, List.nil_append, List.append_nil, List.replicate, Nat.reduceAdd, Nat.reduceSub, Nat.reduceLeDiff, Nat.zero_add, true_and, and_true, reduceIte, Bool.false_eq_true, Bool.true_eq_false, Bool.not_true, Bool.not_false]
    refine ⟨cmul_l (by decide) (by decide), ?_⟩
    refine drw s (by decide) (by decide) fun d3 S3 b0 b1 f3 s3 => ?_
    exact ih _ _ ⟨10 * v + d3, some i, rfl, by omega, f.trans f3, s3⟩
end
end Lw

namespace Lw
open PySem PySem.Spec PyProof.Rows L2

/-! ### what is refused -/
theorem mNe_net {S : Sto} {z z2 : Str} {q : QD} (hz : Net z) (hz2 : Net z2) (h : q (.bl (!decide (z = z2))) S) : mNe (.str z) (.str z2) S q := by
  have e : (("triangle" : Str) == "square") = false := by decide
  have e' : (("square" : Str) == "triangle") = false := by decide
  have e2 : decide (("triangle" : Str) = "square") = false := by decide
  have e3 : decide (("square" : Str) = "triangle") = false := by decide
  rcases hz with rfl | rfl <;> rcases hz2 with rfl | rfl <;> refine mNe_of rfl rfl (by decide +kernel) (by decide +kernel) ?_
  · simpa [PyData.eqv] using h
  · simpa [PyData.eqv, e', e3] using h
  · simpa [PyData.eqv, e, e2] using h
  · simpa [PyData.eqv] using h
def mvF (z : Str) (a b t : Int) : List (Str × D) := [("own_net", .str z), ("own_place", .tup [.int a, .int b]), ("own_turn", .int t)]
theorem fl_net {z : Str} {a b t : Int} : (mvF z a b t).lookup ("own_net" : Str) = some (.str z) := by simp [mvF, List.lookup]
theorem fl_place {z : Str} {a b t : Int} : (mvF z a b t).lookup ("own_place" : Str) = some (.tup [.int a, .int b]) := by
  have e : (("own_place" : Str) == "own_net") = false := by decide
  simp [mvF, List.lookup, e]
theorem fl_turn {z : Str} {a b t : Int} : (mvF z a b t).lookup ("own_turn" : Str) = some (.int t) := by
  have e : (("own_turn" : Str) == "own_net") = false := by decide
  have e2 : (("own_turn" : Str) == "own_place") = false := by decide
  simp [mvF, List.lookup, e, e2]
section
variable {S : Sto} {d : D} {q : QD} {x : QX} {m m2 : Nat} {z z2 : Str} {a b t a2 b2 t2 : Int} {s : String}
/-! ### the law's door -/
end
end Lw

namespace Lw
open PySem PySem.Spec PyProof.Rows L2

/-! ### movements: fields, equality; odd things -/
theorem e_fRepr {S : Sto} {d : D} {q : QD} : fRepr [d] S q = (match tree 9 S d with
    | some p => reprOk p = true ∧ q (.str p.shown) S
    | none => False) := Eq.trans rfl rfl
theorem tr_int {k : Nat} {S : Sto} {i : Int} : tree (k + 1) S (.int i) = some (.int i) := rfl
theorem tr_str {k : Nat} {S : Sto} {i : Str} : tree (k + 1) S (.str i) = some (.str i) := rfl
theorem tr_bl {k : Nat} {S : Sto} {i : Bool} : tree (k + 1) S (.bl i) = some (.bool i) := rfl
theorem tr_non {k : Nat} {S : Sto} : tree (k + 1) S .non = some .none := rfl
theorem tr_tup {k : Nat} {S : Sto} {ds : List D} : tree (k + 1) S (.tup ds) = (treeL (tree k S) ds).map .tuple := rfl
theorem tr_lst {k n : Nat} {S : Sto} {ds : List D} (h : S[n]? = some (.lst ds)) : tree (k + 1) S (.ref n) = (treeL (tree k S) ds).map .list := by
  show ((seqO S n).bind fun ds => (treeL (tree k S) ds).map PyData.list) = _
  unfold seqO
  rw [h]
  rfl
theorem trL_nil {f : D → Option PyData} : treeL f [] = some [] := rfl
theorem trL_cons {f : D → Option PyData} {d : D} {ds : List D} : treeL f (d :: ds) = (match f d, treeL f ds with
    | some a, some b => some (a :: b)
    | _, _ => none) := rfl
theorem lk_given {d : D} : List.lookup ("given" : Str) [("given", d)] = some d := by simp [List.lookup]
theorem get_app {S : Sto} {o : O} : (S ++ [o])[S.length]? = some o := by simp
theorem strOk_net {z : Str} (hz : Net z) : PyData.strOk z = true := by rcases hz with rfl | rfl <;> decide +kernel
theorem sh_str {u : Str} (h : PyData.strOk u = true) : SeqAt.shaped (.str u) = true := by simp [SeqAt.shaped, PyData.canLay0, PyData.depth, h]
theorem mEq_str {S : Sto} {u v : Str} {q : QD} (hu : PyData.strOk u = true) (hv : PyData.strOk v = true) : mEq (.str u) (.str v) S q = q (.bl (u == v)) S := by
  have e1 : tree 9 S (.str u) = some (.str u) := rfl
  have e2 : tree 9 S (.str v) = some (.str v) := rfl
  unfold mEq
  simp only [e1, e2, sh_str hu, sh_str hv, PyData.eqv, true_and, and_self]
theorem mEq_pl {S : Sto} {a b c d : Int} {q : QD} : mEq (.tup [.int a, .int b]) (.tup [.int c, .int d]) S q = q (.bl (a == c && b == d)) S := by
  have e : ∀ i j : Int, tree 9 S (.tup [.int i, .int j]) = some (.tuple [.int i, .int j]) := fun _ _ => rfl
  have s : ∀ i j : Int, SeqAt.shaped (.tuple [.int i, .int j]) = true := fun i j => by simp [SeqAt.shaped, PyData.canLay0, PyData.canLayAll0, PyData.depth, PyData.depthAll]
  unfold mEq
  simp only [e, s, PyData.eqv, PyData.eqvAll, true_and, and_self, Bool.and_true]
theorem mEq_int' {S : Sto} {i j : Int} {q : QD} : mEq (.int i) (.int j) S q = q (.bl (i == j)) S := propext mEq_int
theorem atI_mem {ds : List D} {i : Int} (h0 : 0 ≤ i) (h1 : i < (ds.length : Int)) : ∃ y, y ∈ ds ∧ L2.atI ds i = some y := by
  have hl : i.toNat < ds.length := by omega
  refine ⟨ds[i.toNat], List.getElem_mem hl, ?_⟩
  unfold L2.atI L2.ixN
  simp [h0, h1, hl]
section
variable {S : Sto} {d d2 d3 : D} {q : QD} {x : QX} {n m m2 : Nat} {z z2 : Str} {a b t a2 b2 t2 : Int} {s : String} {p : PyData}
theorem steps_ok (hz : Net z) (hq : ∀ ds, (ds.length : Int) = hc z → q (.ref S.length) (S ++ [.lst ds])) : u__law_steps [.str z] S q x := by
  rw [e_u__law_steps, e_b__law_steps, e_b__law_steps_1]
  simp only [e_mNext, e_mSeq, e_mExpr, e_mRet, e_mRetN, e_mIfS, e_mBreak, e_mCont, e_mAsg, e_mPar, e_gmName, e_gmNil, e_gmCons, e_gmTup, e_gmSub, e_mVar, e_mC, e_mOp, e_mtB, e_mtT, e_mtNot, e_mtAnd, e_mtOr, e_mAnd, e_mOr, e_mAndT, e_mOrT, e_mIf, e_mNotB, e_mChain, e_maNil, e_maCons, e_mTup, e_mLst, e_mCall, e_mFld, e_mProp, e_mMeth, e_mMake, e_mSetF, e_mUnO, e_mBinO, e_mCallO, e_mCMeth, e_mRaise, e_mTry, e_mFn, e_mNeg, e_mIsiB, e_mIsiO, e_mFor, e_miRange1, e_miRange2, e_miTup, e_miLst, e_body, e_addII, e_addIB, e_addSS, e_addTT, e_addRR, e_subII, e_mulII, e_fdivII, e_modII, e_powII, e_ltII, e_leII, e_gtII, e_geII, e_is, e_isNot, e_ixT, e_ixR, e_ixS, e_ixD, e_inD, e_isIns, e_fLenS, e_fLenT, e_fLenR, e_fMax2, e_fMin2, e_fAbs, e_fIntI, e_fIntB, e_fBoolI, e_fBoolB, e_mExcF, e_tryNil, e_tryCons, e_mBM, e_append, e_extend, e_gmUnl, e_mEqO, e_mNeO, e_fLenO, e_fBoolO, e_mtTO, e_mInO, e_mNotInO, e_mGetO, e_mComp, e_mtYes, putD, List.getElem?_cons_zero, List.getElem?_cons_succ, List.set_cons_zero, List.set_cons_succ, List.map_cons, List.map_nil, List.length_cons, List.length_nil, List.cons_append, List.nil_append, List.append_nil, List.replicate, Nat.reduceAdd, Nat.reduceSub, Nat.reduceLeDiff, Nat.zero_add, true_and, and_true, reduceIte, Bool.false_eq_true, Bool.true_eq_false, Bool.not_true, Bool.not_false]
  rw [mEq_str (strOk_net hz) (by decide +kernel)]
  rcases hz with rfl | rfl
  · simp only [e_mNext, e_mSeq, e_mExpr, e_mRet, e_mRetN, e_mIfS, e_mBreak, e_mCont, e_mAsg, e_mPar, e_gmName, e_gmNil, e_gmCons, e_gmTup, e_gmSub, e_mVar, e_mC, e_mOp, e_mtB, e_mtT, e_mtNot, e_mtAnd, e_mtOr, e_mAnd, e_mOr, e_mAndT, e_mOrT, e_mIf, e_mNotB, e_mChain, e_maNil, e_maCons, e_mTup, e_mLst, e_mCall, e_mFld, e_mProp, e_mMeth, e_mMake, e_mSetF, e_mUnO, e_mBinO, e_mCallO, e_mCMeth, e_mRaise, e_mTry, e_mFn, e_mNeg, e_mIsiB, e_mIsiO, e_mFor, e_miRange1, e_miRange2, e_miTup, e_miLst, e_body, e_addII, e_addIB, e_addSS, e_addTT, e_addRR, e_subII, e_mulII, e_fdivII, e_modII, e_powII, e_ltII, e_leII, e_gtII, e_geII, e_is, e_isNot, e_ixT, e_ixR, e_ixS, e_ixD, e_inD, e_isIns, e_fLenS, e_fLenT, e_fLenR, e_fMax2, e_fMin2, e_fAbs, e_fIntI, e_fIntB, e_fBoolI, e_fBoolB, e_mExcF, e_tryNil, e_tryCons, e_mBM, e_append, e_extend, e_gmUnl, e_mEqO, e_mNeO, e_fLenO, e_fBoolO, e_mtTO, e_mInO, e_mNotInO, e_mGetO, e_mComp, e_mtYes, putD, List.getElem?_cons_zero, List.getElem?_cons_succ, List.set_cons_zero, List.set_cons_succ, List.map_cons, List.map_nil, List.length_cons, List.length_nil, List.cons_append, List.nil_append, List.append_nil, List.replicate, Nat.reduceAdd, Nat.reduceSub, Nat.reduceLeDiff, Nat.zero_add, true_and, and_true, reduceIte, Bool.false_eq_true, Bool.true_eq_false, Bool.not_true, Bool.not_false, beq_self_eq_true]
    repeat (first | exact hq _ rfl | refine ⟨sl_pos (by decide), ?_⟩)
  · have e : (("triangle" : Str) == "square") = false := by decide
    simp only [e_mNext, e_mSeq, e_mExpr, e_mRet, e_mRetN, e_mIfS, e_mBreak, e_mCont, e_mAsg, e_mPar, e_gmName, e_gmNil, e_gmCons, e_gmTup, e_gmSub, e_mVar, e_mC, e_mOp, e_mtB, e_mtT, e_mtNot, e_mtAnd, e_mtOr, e_mAnd, e_mOr, e_mAndT, e_mOrT, e_mIf, e_mNotB, e_mChain, e_maNil, e_maCons, e_mTup, e_mLst, e_mCall, e_mFld, e_mProp, e_mMeth, e_mMake, e_mSetF, e_mUnO, e_mBinO, e_mCallO, e_mCMeth, e_mRaise, e_mTry, e_mFn, e_mNeg, e_mIsiB, e_mIsiO, e_mFor, e_miRange1, e_miRange2, e_miTup, e_miLst, e_body, e_addII, e_addIB, e_addSS, e_addTT, e_addRR, e_subII, e_mulII, e_fdivII, e_modII, e_powII, e_ltII, e_leII, e_gtII, e_geII, e_is, e_isNot, e_ixT, e_ixR, e_ixS, e_ixD, e_inD, e_isIns, e_fLenS, e_fLenT, e_fLenR, e_fMax2, e_fMin2, e_fAbs, e_fIntI, e_fIntB, e_fBoolI, e_fBoolB, e_mExcF, e_tryNil, e_tryCons, e_mBM, e_append, e_extend, e_gmUnl, e_mEqO, e_mNeO, e_fLenO, e_fBoolO, e_mtTO, e_mInO, e_mNotInO, e_mGetO, e_mComp, e_mtYes, putD, List.getElem?_cons_zero, List.getElem?_cons_succ, List.set_cons_zero, List.set_cons_succ, List.map_cons, List.map_nil, List.length_cons, List.length_nil, List.cons_append, List.nil_append, List.append_nil, List.replicate, Nat.reduceAdd, Nat.reduceSub, Nat.reduceLeDiff, Nat.zero_add, true_and, and_true, reduceIte, Bool.false_eq_true, Bool.true_eq_false, Bool.not_true, Bool.not_false, e]
    repeat (first | exact hq _ hc_tri.symm | refine ⟨sl_pos (by decide), ?_⟩)
end
/-- an odd thing: of a built-in type, shown by repr -/
structure Odd (S : Sto) (d : D) (p : PyData) : Prop where
  ty : ∃ s, tyD S d = some (.b s)
  tr : tree 9 S d = some p
  rp : reprOk p = true
  sk : PyData.strOk p.shown = true
theorem Odd.mono {S S' : Sto} {d : D} {p : PyData} (o : Odd S d p) (x : Ext S S') : Odd S' d p := ⟨let ⟨s, h⟩ := o.ty; ⟨s, x.tyD h⟩, x.tree 9 d p o.tr, o.rp, o.sk⟩
theorem Odd.okt {S : Sto} {d : D} {p : PyData} (o : Odd S d p) : Okt S d := by
  obtain ⟨s, h⟩ := o.ty
  simp only [Okt, h]
theorem mNe_two {S : Sto} {i j : Nat} {u v : Str} {q : QD} (hi : S[i]? = some (.lst [.str u, .str v])) (hj : S[j]? = some (.lst [.str u, .str v])) (hu : PyData.strOk u = true) (hv : PyData.strOk v = true) (h : q (.bl false) S) : mNe (.ref i) (.ref j) S q := by
  have t : ∀ k, S[k]? = some (.lst [.str u, .str v]) → tree 9 S (.ref k) = some (.list [.str u, .str v]) := fun k hk => by simp [tree, seqO, hk, treeL]
  have hs : SeqAt.shaped (.list [.str u, .str v]) = true := by simp [SeqAt.shaped, PyData.canLay0, PyData.canLayAll0, PyData.depth, PyData.depthAll, hu, hv]
  exact mNe_of (t i hi) (t j hj) hs hs (by simpa [PyData.eqv, PyData.eqvAll] using h)
end Lw

namespace Lw
open PySem PySem.Spec PyProof.Rows L2

/-! ### what is known of a store -/
theorem Ext.frx {S S' : Sto} {n : Nat} (a : Ext S S') : Frx n S S' := ⟨a.len, fun i h _ => a.at_ i h⟩
theorem Ext.src {S S' : Sto} {n : Nat} (a : Ext S S') (h : Src S n) : Src S' n := let ⟨u, v, e, r⟩ := h; ⟨u, v, a.get e, r⟩
/-- the source at n, all of B (but the source) stands, and these cells -/
structure W (n : Nat) (B : Sto) (L : List (Nat × O)) (S : Sto) : Prop where
  src : Src S n
  fr : Frx n B S
  kn : ∀ j o, (j, o) ∈ L → S[j]? = some o ∧ j ≠ n
section
variable {n : Nat} {B : Sto} {L L' : List (Nat × O)} {S S' : Sto} {j j2 : Nat} {o : O} {ds xs : List D} {q : QD} {x : QX} {cn : Str} {fs : List (Str × D)} {K : List (Str × D) → Prop}
theorem W.get (w : W n B L S) (h : (j, o) ∈ L) : S[j]? = some o := (w.kn j o h).1
theorem W.ne (w : W n B L S) (h : (j, o) ∈ L) : j ≠ n := (w.kn j o h).2
theorem W.sub (w : W n B L S) (h : ∀ j o, (j, o) ∈ L' → (j, o) ∈ L) : W n B L' S := ⟨w.src, w.fr, fun j o m => w.kn j o (h j o m)⟩
theorem W.ext (w : W n B L S) (x : Ext S S') : W n B L S' := ⟨x.src w.src, w.fr.trans x.frx, fun j o m => ⟨x.get (w.kn j o m).1, (w.kn j o m).2⟩⟩
theorem W.add (w : W n B L S) (h : S[j]? = some o) (hj : j ≠ n) : W n B ((j, o) :: L) S := ⟨w.src, w.fr, fun i u m => by
  rcases List.mem_cons.mp m with e | m
  · cases e; exact ⟨h, hj⟩
  · exact w.kn i u m⟩
theorem W.frx (w : W n B L S) (f : Frx n S S') (s : Src S' n) : W n B L S' := ⟨s, w.fr.trans f, fun j o m => ⟨f.get (w.kn j o m).1 (w.kn j o m).2, (w.kn j o m).2⟩⟩
/-- a new cell -/
theorem W.new (w : W n B L S) (ej : j = S.length) (eS : S' = S ++ [o]) : W n B ((j, o) :: L) S' := by
  subst ej eS
  have h := w.src.lt
  exact (w.ext Ext.app).add get_app (by omega)
/-- a new cell is written again: it lies behind B and apart from what else is known -/
theorem W.set (w : W n B ((j, o) :: L) S) (hB : B.length ≤ j) (hL : ∀ i u, (i, u) ∈ L → i ≠ j) {o' : O} : W n B ((j, o') :: L) (S.set j o') := by
  have hj := w.kn j o (List.mem_cons_self ..)
  refine ⟨?_, ⟨by simp [w.fr.len], fun i h1 h2 => by rw [List.getElem?_set_ne (by omega)]; exact w.fr.at_ i h1 h2⟩, fun i u m => ?_⟩
  · obtain ⟨u, v, e, r⟩ := w.src
    exact ⟨u, v, by rw [List.getElem?_set_ne hj.2]; exact e, r⟩
  · rcases List.mem_cons.mp m with e | m
    · cases e
      exact ⟨List.getElem?_set_self (List.getElem?_eq_some_iff.mp hj.1).1, hj.2⟩
    · obtain ⟨h1, h2⟩ := w.kn i u (List.mem_cons_of_mem _ m)
      exact ⟨by rw [List.getElem?_set_ne (Ne.symm (hL i u m))]; exact h1, h2⟩
theorem W.lt (w : W n B L S) (h : (j, o) ∈ L) : j < S.length := (List.getElem?_eq_some_iff.mp (w.get h)).1
theorem W.refl (s : Src S n) : W n S [] S := ⟨s, Frx.refl, fun _ _ h => by cases h⟩
/-- a call's own view: all that stands at its start stands -/
theorem W.base (w : W n B L S) (h : ∀ j o, (j, o) ∈ L' → (j, o) ∈ L) : W n S L' S := ⟨w.src, Frx.refl, fun j o m => w.kn j o (h j o m)⟩
theorem W.back {L2 : List (Nat × O)} (w : W n B L S) (w2 : W n S L2 S') : W n B L S' := w.frx w2.fr w2.src
/-! the transformers, new cells named -/
theorem forall2_eq {p : Nat → Sto → Prop} {a : Nat} {b : Sto} : (∀ j S2, j = a → S2 = b → p j S2) = p a b := propext ⟨fun h => h _ _ rfl rfl, fun h j S2 e1 e2 => by rw [e1, e2]; exact h⟩
theorem w_mLst {ml : MA} {sd : Sg} : mLst ml sd S q x = ml sd S (fun ds S1 => ds.length ≤ sizeLine ∧ ∀ j S2, j = S1.length → S2 = S1 ++ [.lst ds] → q (.ref j) S2) x := by
  simp only [e_mLst, forall2_eq]
theorem w_mMake {u : Spec} {dd : List D} {ml : MA} {sd : Sg} : mMake cn u dd ml sd S q x = ml sd S (fun ds S1 => ∀ j S2, j = S1.length → S2 = S1 ++ [.ins cn []] → u (.ref j :: (ds ++ dd)) S2 (fun d S3 => d = .non ∧ q (.ref j) S3) x) x := by
  simp only [e_mMake, forall2_eq]
def wlkD (d : D) (S1 : Sto) (Q : Itm → Sto → Prop) : Prop := match d with
  | .ref n => (match S1[n]? with
    | some (.lst ds) => Q ⟨ds, fun S2 => S2[n]? = some (.lst ds)⟩ S1
    | some (.frz ds) => Q ⟨ds, fun S2 => S2[n]? = some (.frz ds)⟩ S1
    | _ => False)
  | _ => False
theorem w_miLst {m : ME} {sd : Sg} {Q : Itm → Sto → Prop} : miLst m sd S Q x = m sd S (fun d S1 => wlkD d S1 Q) x := Eq.trans rfl rfl
theorem wlk_ok {Q : Itm → Sto → Prop} (w : W n B L S) (h : (j, .lst ds) ∈ L) (hq : Q ⟨ds, fun S2 => S2[j]? = some (.lst ds)⟩ S) : wlkD (.ref j) S Q := by
  unfold wlkD
  simp only [w.get h]
  exact hq
def addD (i j : Nat) (S : Sto) (q : QD) : Prop := match lstO S i, lstO S j with
    | some a, some b => a.length + b.length ≤ sizeLine ∧ ∀ k S2, k = S.length → S2 = S ++ [.lst (a ++ b)] → q (.ref k) S2
    | _, _ => False
theorem w_addRR {i j : Nat} : mAdd (.ref i) (.ref j) S q = addD i j S q := by
  rw [e_addRR]
  unfold addD
  cases lstO S i <;> cases lstO S j <;> first | rfl | simp only [forall2_eq]
theorem addR_ok {i : Nat} (w : W n B L S) (m1 : (j, .lst ds) ∈ L) (m2 : (i, .lst xs) ∈ L) (hl : ds.length + xs.length ≤ 900) (h : ∀ k S', W n B ((k, .lst (ds ++ xs)) :: L) S' → q (.ref k) S') : addD j i S q := by
  unfold addD lstO
  simp only [w.get m1, w.get m2]
  exact ⟨Nat.le_trans hl (sl_pos (by decide)), fun k S2 e1 e2 => h k S2 (w.new e1 e2)⟩
theorem compL_ind {ok : Sto → Prop} {g : MG} {t : MT} {e : ME} {sd0 : Sg} {q : List D → Sto → Prop} (Inv : List D → List D → Sto → Prop) (hn : ∀ acc S, Inv [] acc S → ok S ∧ q acc S)
    (hs : ∀ d ds acc S, Inv (d :: ds) acc S → (∀ acc' S', Inv ds acc' S' → compL ok g t e sd0 q ds acc' S') → ok S ∧ g d sd0 S (fun sd1 S1 => t sd1 S1 (fun k S2 => if k = true then e sd1 S2 (fun y S3 => acc.length < sizeLine ∧ compL ok g t e sd0 q ds (acc ++ [y]) S3) noX else compL ok g t e sd0 q ds acc S2) noX)) :
    ∀ items acc S, Inv items acc S → compL ok g t e sd0 q items acc S
  | [], acc, S, h => by rw [compL]; exact hn acc S h
  | d :: ds, acc, S, h => by rw [compL]; exact hs d ds acc S h fun acc' S' h' => compL_ind Inv hn hs ds acc' S' h'
def unlD (n : Nat) (h : MGs) (j : Nat) (sd : Sg) (S : Sto) (kk : Sg → Sto → Prop) : Prop := match seqO S j with
    | some ds => ds.length = n ∧ h ds sd S kk
    | none => False
theorem w_gmUnl {k j : Nat} {h : MGs} {sd : Sg} {kk : Sg → Sto → Prop} : gmUnl k h (.ref j) sd S kk = unlD k h j sd S kk := Eq.trans rfl rfl
theorem unl_ok {k : Nat} {h : MGs} {sd : Sg} {kk : Sg → Sto → Prop} (w : W n B L S) (m : (j, .lst ds) ∈ L) (hl : ds.length = k) (hq : h ds sd S kk) : unlD k h j sd S kk := by
  unfold unlD seqO
  simp only [w.get m]
  exact ⟨hl, hq⟩
theorem w_mComp {m : ME} {mi : MI} {vs : List Nat} {g : MG} {t : MT} {sd : Sg} : mComp mi vs g t m sd S q x = mi sd S (fun it S1 => compL it.ok g t m (wipeD sd vs) (fun ys S2 => ∀ j S3, j = S2.length → S3 = S2 ++ [.lst ys] → q (.ref j) S3) it.items [] S1) x := by
  simp only [e_mComp, forall2_eq]
theorem compL_nil {ok : Sto → Prop} {g : MG} {t : MT} {e : ME} {sd0 : Sg} {q : List D → Sto → Prop} {acc : List D} {S : Sto} : compL ok g t e sd0 q [] acc S = (ok S ∧ q acc S) := by
  rw [compL]
theorem w_compL {ok : Sto → Prop} {g : MG} {t : MT} {e : ME} {sd0 : Sg} {q : List D → Sto → Prop} {acc ds : List D} {d : D} {S : Sto} : compL ok g t e sd0 q (d :: ds) acc S =
    (ok S ∧ g d sd0 S (fun sd1 S1 => t sd1 S1 (fun k S2 => if k = true then e sd1 S2 (fun y S3 => acc.length < sizeLine ∧ compL ok g t e sd0 q ds (acc ++ [y]) S3) noX else compL ok g t e sd0 q ds acc S2) noX)) := by
  rw [compL]
def setD (cn fn : Str) (d v : D) (S : Sto) (k : Sto → Prop) : Prop := match d with
  | .ref i => (match S[i]? with
    | some (.ins c' fs) => c' = cn ∧ fs.length < 1000 ∧ k (S.set i (.ins cn (putD fn v fs)))
    | _ => False)
  | _ => False
theorem w_mSetF {o e : ME} {fn : Str} {md : MEnds} {sd : Sg} : mSetF cn fn o e md sd S = e sd S (fun v S1 => o sd S1 (fun d S2 => setD cn fn d v S2 (md.nx sd)) (fun e S1 => md.ex e sd S1)) (fun e S1 => md.ex e sd S1) := Eq.trans rfl rfl
theorem set_ok {fn : Str} {v : D} {k : Sto → Prop} (w : W n B ((j, .ins cn fs) :: L) S) (hB : B.length ≤ j) (hL : ∀ i u, (i, u) ∈ L → i ≠ j) (hl : fs.length ≤ 900) (h : ∀ S', W n B ((j, .ins cn (putD fn v fs)) :: L) S' → k S') : setD cn fn (.ref j) v S k := by
  unfold setD
  simp only [w.get (List.mem_cons_self ..)]
  exact ⟨trivial, by omega, h _ (w.set hB hL)⟩
/-! reading -/
theorem ins_ok (w : W n B L S) (m : (j, .ins cn fs) ∈ L) (h : K fs) : isIns cn (.ref j) S K := by
  unfold isIns
  simp only [w.get m]
  exact ⟨trivial, h⟩
theorem ix_ok {i : Int} {y : D} (w : W n B L S) (m : (j, .lst ds) ∈ L) (e : L2.atI ds i = some y) (h : q y S) : mIx (.ref j) (.int i) S q := by
  unfold mIx seqO
  simp only [w.get m, e]
  exact h
theorem len_ok (w : W n B L S) (m : (j, .lst ds) ∈ L) (h : q (.int ds.length) S) : fLen [.ref j] S q := by
  unfold fLen seqO
  simp only [w.get m]
  exact h
theorem app_ok {y : D} (w : W n B ((j, .lst ds) :: L) S) (hB : B.length ≤ j) (hL : ∀ i u, (i, u) ∈ L → i ≠ j) (hl : ds.length ≤ 900) (h : ∀ S', W n B ((j, .lst (ds ++ [y])) :: L) S' → q .non S') : gAppend (.ref j) [y] S q := by
  unfold gAppend lstO
  simp only [w.get (List.mem_cons_self ..)]
  exact ⟨by have := sl_pos (n := 901) (by decide); omega, h _ (w.set hB hL)⟩
theorem tyl_ok (w : W n B L S) (m : (j, .lst ds) ∈ L) : tyM "list" (.ref j) S := by
  unfold tyM seqO
  simp only [w.get m]
  exact ⟨trivial, rfl⟩
/-! draws -/
theorem drw_w {k : Int} (w : W n B L S) (hk : 0 < k) (h2 : k < 1000) (hq : ∀ d S', 0 ≤ d → d < k → W n B L S' → q (.int d) S') : u__law_draw [.ref n, .int k] S q x :=
  drw w.src hk h2 fun d S' a b f s => hq d S' a b (w.frx f s)
theorem drwL_w {k : Int} (w : W n B L S) (hk : 0 < k) (h2 : k.natAbs.log2 < 9000) (hq : ∀ d S', 0 ≤ d → d < k → W n B L S' → q (.int d) S') : u__law_draw [.ref n, .int k] S q x :=
  draw_ok w.src hk h2 fun d S' a b f _ s => hq d S' a b (w.frx f s)
theorem big_w (w : W n B L S) (hq : ∀ v S', 1 ≤ v → v < 10 ^ 31 → W n B L S' → q (.int v) S') : u__law_big [.ref n] S q x := by
  rw [e_u__law_big, e_b__law_big, e_b__law_big_3, e_b__law_big_2, e_b__law_big_1]
  try simp only [e_mNext, e_mSeq, e_mExpr, e_mRet, e_mRetN, e_mIfS, e_mBreak, e_mCont, e_mAsg, e_mPar, e_gmName, e_gmNil, e_gmCons, e_gmTup, e_gmSub, e_mVar, e_mC, e_mOp, e_mtB, e_mtT, e_mtNot, e_mtAnd, e_mtOr, e_mAnd, e_mOr, e_mAndT, e_mOrT, e_mIf, e_mNotB, e_mChain, e_maNil, e_maCons, e_mTup, e_mCall, e_mFld, e_mProp, e_mMeth, e_mUnO, e_mBinO, e_mCallO, e_mCMeth, e_mRaise, e_mTry, e_mFn, e_mNeg, e_mIsiB, e_mIsiO, e_mFor, e_miRange1, e_miRange2, e_miTup, e_body, e_addII, e_addIB, e_addSS, e_addTT, e_subII, e_mulII, e_fdivII, e_modII, e_powII, e_ltII, e_leII, e_gtII, e_geII, e_is, e_isNot, e_ixT, e_ixS, e_ixD, e_inD, e_fLenS, e_fLenT, e_fMax2, e_fMin2, e_fAbs, e_fIntI, e_fIntB, e_fBoolI, e_fBoolB, e_mExcF, e_tryNil, e_tryCons, e_mBM, e_mEqO, e_mNeO, e_fLenO, e_fBoolO, e_mtTO, e_mInO, e_mNotInO, e_mGetO, e_mtYes, putD, List.getElem?_cons_zero, List.getElem?_cons_succ, List.set_cons_zero, List.set_cons_succ, List.map_cons, List.map_nil, List.length_cons, List.length_nil, List.cons_append, List.nil_append, List.append_nil, List.replicate, Nat.reduceAdd, Nat.reduceSub, Nat.reduceLeDiff, Nat.zero_add, true_and, and_true, reduceIte, Bool.false_eq_true, Bool.true_eq_false, Bool.not_true, Bool.not_false, w_mLst, w_mMake, w_miLst, w_gmUnl, w_mComp, compL_nil, w_compL, w_mSetF, w_addRR]
  refine ⟨(sl_pos (by simp)), fun j S1 ej eS => ?_⟩
  have w0 := w
  replace w := w.new ej eS
  refine drw_w w (by decide) (by decide) fun d S2 d0 d4 w => ?_
  have hg : ∃ g : Int, L2.atI [D.int 1, .int 2, .int 9, .int 30] d = some (.int g) ∧ (g = 1 ∨ g = 2 ∨ g = 9 ∨ g = 30) := by
    have : d = 0 ∨ d = 1 ∨ d = 2 ∨ d = 3 := by omega
    rcases this with rfl | rfl | rfl | rfl
    · exact ⟨1, rfl, by decide⟩
    · exact ⟨2, rfl, by decide⟩
    · exact ⟨9, rfl, by decide⟩
    · exact ⟨30, rfl, by decide⟩
  obtain ⟨g, eg, hg⟩ := hg
  refine ix_ok w (by repeat (first | exact List.Mem.head _ | apply List.Mem.tail)) eg ?_
  try simp only [e_mNext, e_mSeq, e_mExpr, e_mRet, e_mRetN, e_mIfS, e_mBreak, e_mCont, e_mAsg, e_mPar, e_gmName, e_gmNil, e_gmCons, e_gmTup, e_gmSub, e_mVar, e_mC, e_mOp, e_mtB, e_mtT, e_mtNot, e_mtAnd, e_mtOr, e_mAnd, e_mOr, e_mAndT, e_mOrT, e_mIf, e_mNotB, e_mChain, e_maNil, e_maCons, e_mTup, e_mCall, e_mFld, e_mProp, e_mMeth, e_mUnO, e_mBinO, e_mCallO, e_mCMeth, e_mRaise, e_mTry, e_mFn, e_mNeg, e_mIsiB, e_mIsiO, e_mFor, e_miRange1, e_miRange2, e_miTup, e_body, e_addII, e_addIB, e_addSS, e_addTT, e_subII, e_mulII, e_fdivII, e_modII, e_powII, e_ltII, e_leII, e_gtII, e_geII, e_is, e_isNot, e_ixT, e_ixS, e_ixD, e_inD, e_fLenS, e_fLenT, e_fMax2, e_fMin2, e_fAbs, e_fIntI, e_fIntB, e_fBoolI, e_fBoolB, e_mExcF, e_tryNil, e_tryCons, e_mBM, e_mEqO, e_mNeO, e_fLenO, e_fBoolO, e_mtTO, e_mInO, e_mNotInO, e_mGetO, e_mtYes, putD, List.getElem?_cons_zero, List.getElem?_cons_succ, List.set_cons_zero, List.set_cons_succ, List.map_cons, List.map_nil, List.length_cons, List.length_nil, List.cons_append, List.nil_append, List.append_nil, List.replicate, Nat.reduceAdd, Nat.reduceSub, Nat.reduceLeDiff, Nat.zero_add, true_and, and_true, reduceIte, Bool.false_eq_true, Bool.true_eq_false, Bool.not_true, Bool.not_false, w_mLst, w_mMake, w_miLst, w_gmUnl, w_mComp, compL_nil, w_compL, w_mSetF, w_addRR]
  refine drw_w w (by decide) (by decide) fun d2 S3 a0 a1 w => ?_
  try simp only [e_mNext, e_mSeq, e_mExpr, e_mRet, e_mRetN, e_mIfS, e_mBreak, e_mCont, e_mAsg, e_mPar, e_gmName, e_gmNil, e_gmCons, e_gmTup, e_gmSub, e_mVar, e_mC, e_mOp, e_mtB, e_mtT, e_mtNot, e_mtAnd, e_mtOr, e_mAnd, e_mOr, e_mAndT, e_mOrT, e_mIf, e_mNotB, e_mChain, e_maNil, e_maCons, e_mTup, e_mCall, e_mFld, e_mProp, e_mMeth, e_mUnO, e_mBinO, e_mCallO, e_mCMeth, e_mRaise, e_mTry, e_mFn, e_mNeg, e_mIsiB, e_mIsiO, e_mFor, e_miRange1, e_miRange2, e_miTup, e_body, e_addII, e_addIB, e_addSS, e_addTT, e_subII, e_mulII, e_fdivII, e_modII, e_powII, e_ltII, e_leII, e_gtII, e_geII, e_is, e_isNot, e_ixT, e_ixS, e_ixD, e_inD, e_fLenS, e_fLenT, e_fMax2, e_fMin2, e_fAbs, e_fIntI, e_fIntB, e_fBoolI, e_fBoolB, e_mExcF, e_tryNil, e_tryCons, e_mBM, e_mEqO, e_mNeO, e_fLenO, e_fBoolO, e_mtTO, e_mInO, e_mNotInO, e_mGetO, e_mtYes, putD, List.getElem?_cons_zero, List.getElem?_cons_succ, List.set_cons_zero, List.set_cons_succ, List.map_cons, List.map_nil, List.length_cons, List.length_nil, List.cons_append, List.nil_append, List.append_nil, List.replicate, Nat.reduceAdd, Nat.reduceSub, Nat.reduceLeDiff, Nat.zero_add, true_and, and_true, reduceIte, Bool.false_eq_true, Bool.true_eq_false, Bool.not_true, Bool.not_false, w_mLst, w_mMake, w_miLst, w_gmUnl, w_mComp, compL_nil, w_compL, w_mSetF, w_addRR]
  refine ⟨⟨by omega, by omega⟩, ?_⟩
  refine forL_ind (fun items sd S' => ∃ (v : Int) (c : Option D), sd = [some (.ref n), some (.int g), some (.int v), c] ∧ 1 ≤ v ∧ v * 10 ^ items.length ≤ 10 ^ 31 - 10 ^ items.length ∧ items.length ≤ 29 ∧ W n B ((j, .lst [D.int 1, .int 2, .int 9, .int 30]) :: L) S') ?_ ?_ _ _ _ ⟨d2 + 1, none, rfl, by omega, ?_, ?_, w⟩
  · rintro sd S' ⟨v, c, rfl, hv, hb, _, w⟩
    refine ⟨trivial, hq v S' hv ?_ (w.sub fun _ _ m => List.mem_cons_of_mem _ m)⟩
    simp only [List.length_nil, Nat.pow_zero, Int.pow_zero] at hb
    omega
  · rintro i is sd S' ⟨v, c, rfl, hv, hb, hl, w⟩ ih
    try simp only [e_mNext, e_mSeq, e_mExpr, e_mRet, e_mRetN, e_mIfS, e_mBreak, e_mCont, e_mAsg, e_mPar, e_gmName, e_gmNil, e_gmCons, e_gmTup, e_gmSub, e_mVar, e_mC, e_mOp, e_mtB, e_mtT, e_mtNot, e_mtAnd, e_mtOr, e_mAnd, e_mOr, e_mAndT, e_mOrT, e_mIf, e_mNotB, e_mChain, e_maNil, e_maCons, e_mTup, e_mCall, e_mFld, e_mProp, e_mMeth, e_mUnO, e_mBinO, e_mCallO, e_mCMeth, e_mRaise, e_mTry, e_mFn, e_mNeg, e_mIsiB, e_mIsiO, e_mFor, e_miRange1, e_miRange2, e_miTup, e_body, e_addII, e_addIB, e_addSS, e_addTT, e_subII, e_mulII, e_fdivII, e_modII, e_powII, e_ltII, e_leII, e_gtII, e_geII, e_is, e_isNot, e_ixT, e_ixS, e_ixD, e_inD, e_fLenS, e_fLenT, e_fMax2, e_fMin2, e_fAbs, e_fIntI, e_fIntB, e_fBoolI, e_fBoolB, e_mExcF, e_tryNil, e_tryCons, e_mBM, e_mEqO, e_mNeO, e_fLenO, e_fBoolO, e_mtTO, e_mInO, e_mNotInO, e_mGetO, e_mtYes, putD, List.getElem?_cons_zero, List.getElem?_cons_succ, List.set_cons_zero, List.set_cons_succ, List.map_cons, List.map_nil, List.length_cons, List.length_nil, List.cons_append, List.nil_append, List.append_nil, List.replicate, Nat.reduceAdd, Nat.reduceSub, Nat.reduceLeDiff, Nat.zero_add, true_and, and_true, reduceIte, Bool.false_eq_true, Bool.true_eq_false, Bool.not_true, Bool.not_false, w_mLst, w_mMake, w_miLst, w_gmUnl, w_mComp, compL_nil, w_compL, w_mSetF, w_addRR]
    refine ⟨cmul_l (by decide) (by decide), ?_⟩
    refine drw_w w (by decide) (by decide) fun d3 S4 b0 b1 w => ?_
    try simp only [e_mNext, e_mSeq, e_mExpr, e_mRet, e_mRetN, e_mIfS, e_mBreak, e_mCont, e_mAsg, e_mPar, e_gmName, e_gmNil, e_gmCons, e_gmTup, e_gmSub, e_mVar, e_mC, e_mOp, e_mtB, e_mtT, e_mtNot, e_mtAnd, e_mtOr, e_mAnd, e_mOr, e_mAndT, e_mOrT, e_mIf, e_mNotB, e_mChain, e_maNil, e_maCons, e_mTup, e_mCall, e_mFld, e_mProp, e_mMeth, e_mUnO, e_mBinO, e_mCallO, e_mCMeth, e_mRaise, e_mTry, e_mFn, e_mNeg, e_mIsiB, e_mIsiO, e_mFor, e_miRange1, e_miRange2, e_miTup, e_body, e_addII, e_addIB, e_addSS, e_addTT, e_subII, e_mulII, e_fdivII, e_modII, e_powII, e_ltII, e_leII, e_gtII, e_geII, e_is, e_isNot, e_ixT, e_ixS, e_ixD, e_inD, e_fLenS, e_fLenT, e_fMax2, e_fMin2, e_fAbs, e_fIntI, e_fIntB, e_fBoolI, e_fBoolB, e_mExcF, e_tryNil, e_tryCons, e_mBM, e_mEqO, e_mNeO, e_fLenO, e_fBoolO, e_mtTO, e_mInO, e_mNotInO, e_mGetO, e_mtYes, putD, List.getElem?_cons_zero, List.getElem?_cons_succ, List.set_cons_zero, List.set_cons_succ, List.map_cons, List.map_nil, List.length_cons, List.length_nil, List.cons_append, List.nil_append, List.append_nil, List.replicate, Nat.reduceAdd, Nat.reduceSub, Nat.reduceLeDiff, Nat.zero_add, true_and, and_true, reduceIte, Bool.false_eq_true, Bool.true_eq_false, Bool.not_true, Bool.not_false, w_mLst, w_mMake, w_miLst, w_gmUnl, w_mComp, compL_nil, w_compL, w_mSetF, w_addRR]
    refine ih _ _ ⟨10 * v + d3, some i, rfl, by omega, ?_, by simp only [List.length_cons] at hl; omega, w⟩
    simp only [List.length_cons, Int.pow_succ] at hb
    have hP : (0 : Int) ≤ 10 ^ is.length := Int.pow_nonneg (by decide)
    generalize (10 : Int) ^ is.length = P at hb hP
    have e1 : v * (P * 10) = 10 * (v * P) := by rw [← Int.mul_assoc, Int.mul_comm]
    have e2 : (10 * v + d3) * P = 10 * (v * P) + d3 * P := by rw [Int.add_mul, Int.mul_assoc]
    have e3 : d3 * P ≤ 9 * P := Int.mul_le_mul_of_nonneg_right (by omega) hP
    rw [e1] at hb
    rw [e2]
    omega
  · rw [rangeD_len]
    have hd : d2 + 1 ≤ 10 := by omega
    have hd0 : 0 ≤ d2 := by omega
    rcases hg with rfl | rfl | rfl | rfl
    · show (d2 + 1) * 10 ^ 0 ≤ 10 ^ 31 - 10 ^ 0; omega
    · show (d2 + 1) * 10 ^ 1 ≤ 10 ^ 31 - 10 ^ 1; omega
    · show (d2 + 1) * 10 ^ 8 ≤ 10 ^ 31 - 10 ^ 8; omega
    · show (d2 + 1) * 10 ^ 29 ≤ 10 ^ 31 - 10 ^ 29; omega
  · rw [rangeD_len]
    rcases hg with rfl | rfl | rfl | rfl <;> decide
end
end Lw

namespace Lw
open PySem PySem.Spec PyProof.Rows L2

/-! ### turning, plainly -/
theorem rotN_succ' (z : Str) : ∀ (n : Nat) (p : Int × Int), rotN z (n + 1) p = rot1 z (rotN z n p)
  | 0, p => rfl
  | n + 1, p => by
    show rotN z (n + 1) (rot1 z p) = rot1 z (rotN z n (rot1 z p))
    exact rotN_succ' z n (rot1 z p)
theorem rotN_add (z : Str) : ∀ (m n : Nat) (p : Int × Int), rotN z (m + n) p = rotN z m (rotN z n p)
  | 0, n, p => by rw [Nat.zero_add]; rfl
  | m + 1, n, p => by
    rw [Nat.add_right_comm, rotN_succ', rotN_add z m n p, ← rotN_succ']
theorem rot1_lin (z : Str) (p q : Int × Int) : rot1 z (p.1 + q.1, p.2 + q.2) = ((rot1 z p).1 + (rot1 z q).1, (rot1 z p).2 + (rot1 z q).2) := by
  unfold rot1
  split <;> (apply Prod.ext <;> simp only <;> omega)
theorem rotN_lin (z : Str) : ∀ (n : Nat) (p q : Int × Int), rotN z n (p.1 + q.1, p.2 + q.2) = ((rotN z n p).1 + (rotN z n q).1, (rotN z n p).2 + (rotN z n q).2)
  | 0, p, q => rfl
  | n + 1, p, q => by
    show rotN z n (rot1 z _) = _
    rw [rot1_lin, rotN_lin z n (rot1 z p) (rot1 z q)]
    rfl
theorem rotN_zero (z : Str) : ∀ n : Nat, rotN z n (0, 0) = (0, 0)
  | 0 => rfl
  | n + 1 => by
    show rotN z n (rot1 z (0, 0)) = _
    have e : rot1 z (0, 0) = (0, 0) := by unfold rot1; split <;> rfl
    rw [e, rotN_zero z n]
theorem rotN_neg (z : Str) (n : Nat) (p : Int × Int) : rotN z n (-p.1, -p.2) = (-(rotN z n p).1, -(rotN z n p).2) := by
  have h := rotN_lin z n p (-p.1, -p.2)
  have e : (p.1 + -p.1, p.2 + -p.2) = ((0 : Int), (0 : Int)) := by apply Prod.ext <;> simp only <;> omega
  rw [e, rotN_zero] at h
  have h1 := congrArg Prod.fst h
  have h2 := congrArg Prod.snd h
  simp only at h1 h2
  apply Prod.ext <;> simp only <;> omega
def hn (z : Str) : Nat := (hc z).toNat
theorem hn_hc (z : Str) : (hn z : Int) = hc z := by have := hc_pos z; unfold hn; omega
theorem rotN_per {z : Str} (hz : Net z) (p : Int × Int) : rotN z (hn z) p = p := by
  rcases hz with rfl | rfl
  · show rotN "square" 4 p = p
    simp only [rotN, rot1, if_pos]
    apply Prod.ext <;> simp only <;> omega
  · have e : hn "triangle" = 6 := by unfold hn; rw [hc_tri]; rfl
    rw [e]
    simp only [rotN, rot1, tri_ne, if_false]
    apply Prod.ext <;> simp only <;> omega
theorem rotN_mul {z : Str} (hz : Net z) (p : Int × Int) : ∀ k : Nat, rotN z (hn z * k) p = p
  | 0 => rfl
  | k + 1 => by rw [Nat.mul_succ, rotN_add, rotN_per hz, rotN_mul hz p k]
theorem rotN_mod {z : Str} (hz : Net z) (n : Nat) (p : Int × Int) : rotN z (n % hn z) p = rotN z n p := by
  have e := Nat.mod_add_div n (hn z)
  have h : rotN z (n % hn z + hn z * (n / hn z)) p = rotN z n p := by rw [e]
  rw [rotN_add, rotN_mul hz] at h
  exact h
/-- turned by any number -/
def rI (z : Str) (t : Int) (p : Int × Int) : Int × Int := rotN z (t % hc z).toNat p
theorem rI_of {z : Str} {t : Int} (h0 : 0 ≤ t) (h1 : t < hc z) (p : Int × Int) : rotN z t.toNat p = rI z t p := by
  unfold rI
  rw [Int.emod_eq_of_lt h0 h1]
theorem rI_mod {z : Str} {t : Int} (p : Int × Int) : rI z (t % hc z) p = rI z t p := by
  unfold rI
  rw [Int.emod_emod]
theorem rI_add {z : Str} (hz : Net z) (s t : Int) (p : Int × Int) : rI z (s + t) p = rI z s (rI z t p) := by
  unfold rI
  have k := hc_pos z
  have s0 := Int.emod_nonneg s (Int.ne_of_gt k)
  have t0 := Int.emod_nonneg t (Int.ne_of_gt k)
  rw [← rotN_add, ← rotN_mod hz ((s % hc z).toNat + (t % hc z).toNat)]
  congr 1
  have e : (s + t) % hc z = (s % hc z + t % hc z) % hc z := by rw [Int.add_emod]
  have st0 := Int.emod_nonneg (s + t) (Int.ne_of_gt k)
  have : ((((s + t) % hc z).toNat : Nat) : Int) = ((((s % hc z).toNat + (t % hc z).toNat) % hn z : Nat) : Int) := by
    rw [Int.toNat_of_nonneg st0, Int.natCast_emod, Int.natCast_add, Int.toNat_of_nonneg s0, Int.toNat_of_nonneg t0, hn_hc, e]
  exact Int.ofNat.inj this
theorem rI_zero {z : Str} (p : Int × Int) : rI z 0 p = p := by unfold rI; rw [Int.zero_emod]; rfl
theorem rI_inv {z : Str} (hz : Net z) (t : Int) (p : Int × Int) : rI z (-t) (rI z t p) = p := by
  rw [← rI_add hz, Int.add_left_neg, rI_zero]
theorem rI_inv' {z : Str} (hz : Net z) (t : Int) (p : Int × Int) : rI z t (rI z (-t) p) = p := by
  rw [← rI_add hz, Int.add_right_neg, rI_zero]
theorem rI_lin {z : Str} (t : Int) (p q : Int × Int) : rI z t (p.1 + q.1, p.2 + q.2) = ((rI z t p).1 + (rI z t q).1, (rI z t p).2 + (rI z t q).2) := rotN_lin z _ p q
theorem rI_neg {z : Str} (t : Int) (p : Int × Int) : rI z t (-p.1, -p.2) = (-(rI z t p).1, -(rI z t p).2) := rotN_neg z _ p
theorem rI_nul {z : Str} (t : Int) : rI z t (0, 0) = (0, 0) := rotN_zero z _
theorem emodL (a b n : Int) : (a % n + b) % n = (a + b) % n := by rw [Int.add_emod, Int.emod_emod, ← Int.add_emod]
theorem emodR (a b n : Int) : (a + b % n) % n = (a + b) % n := by rw [Int.add_emod, Int.emod_emod, ← Int.add_emod]
/-! ### movements, plainly -/
/-- the place, the turn -/
structure Mv where
  p : Int × Int
  t : Int
def Mv.ok (z : Str) (m : Mv) : Prop := 0 ≤ m.t ∧ m.t < hc z
def mvo (z : Str) (m : Mv) : O := mv z m.p.1 m.p.2 m.t
def Mv.at_ (z : Str) (m : Mv) (p : Int × Int) : Int × Int := (m.p.1 + (rI z m.t p).1, m.p.2 + (rI z m.t p).2)
def Mv.add (z : Str) (m k : Mv) : Mv := ⟨m.at_ z k.p, (m.t + k.t) % hc z⟩
def Mv.inv (z : Str) (m : Mv) : Mv := ⟨rI z (-m.t) (-m.p.1, -m.p.2), (-m.t) % hc z⟩
def Mv.one : Mv := ⟨(0, 0), 0⟩
section
variable {z : Str} {a b c m : Mv} {p q : Int × Int}
theorem Mv.ok_mod (p : Int × Int) (t : Int) : Mv.ok z ⟨p, t % hc z⟩ := ⟨Int.emod_nonneg _ (Int.ne_of_gt (hc_pos z)), Int.emod_lt_of_pos _ (hc_pos z)⟩
theorem Mv.ok_add : (a.add z b).ok z := Mv.ok_mod _ _
theorem Mv.ok_inv : (a.inv z).ok z := Mv.ok_mod _ _
theorem Mv.ok_one : Mv.one.ok z := ⟨Int.le_refl _, hc_pos z⟩
theorem Mv.tmod (h : m.ok z) : m.t % hc z = m.t := Int.emod_eq_of_lt h.1 h.2
theorem Mv.at_add (hz : Net z) : (a.add z b).at_ z p = a.at_ z (b.at_ z p) := by
  unfold Mv.add Mv.at_
  simp only
  rw [rI_mod, rI_add hz, rI_lin]
  apply Prod.ext <;> simp only <;> omega
theorem Mv.at_one : Mv.one.at_ z p = p := by
  unfold Mv.at_ Mv.one
  rw [rI_zero]
  apply Prod.ext <;> simp only <;> omega
theorem Mv.at_inv (hz : Net z) : (a.inv z).at_ z (a.at_ z p) = p := by
  unfold Mv.inv Mv.at_
  simp only
  rw [rI_mod, rI_lin, rI_inv hz, rI_neg]
  apply Prod.ext <;> simp only <;> omega
theorem Mv.ext' (h : a.p = b.p) (h2 : a.t = b.t) : a = b := by cases a; cases b; cases h; cases h2; rfl
theorem Mv.assoc (hz : Net z) : (a.add z b).add z c = a.add z (b.add z c) := by
  refine Mv.ext' (Mv.at_add hz) ?_
  unfold Mv.add
  simp only
  rw [emodL, emodR, Int.add_assoc]
theorem Mv.add_one (h : a.ok z) : a.add z .one = a := by
  unfold Mv.add Mv.at_ Mv.one
  refine Mv.ext' ?_ ?_
  · simp only [rI_nul]
    apply Prod.ext <;> simp only <;> omega
  · simp only [Int.add_zero]
    exact Mv.tmod h
theorem Mv.one_add (h : a.ok z) : Mv.one.add z a = a := by
  refine Mv.ext' Mv.at_one ?_
  unfold Mv.add Mv.one
  simp only [Int.zero_add]
  exact Mv.tmod h
theorem Mv.inv_add (hz : Net z) : (a.inv z).add z a = .one := by
  refine Mv.ext' ?_ ?_
  · have h := Mv.at_inv (a := a) (p := (0, 0)) hz
    have e : a.at_ z (0, 0) = a.p := by
      unfold Mv.at_
      rw [rI_nul]
      apply Prod.ext <;> simp only <;> omega
    rw [e] at h
    exact h
  · unfold Mv.add Mv.inv Mv.one
    simp only
    rw [emodL, Int.add_left_neg, Int.zero_emod]
theorem Mv.add_inv (hz : Net z) : a.add z (a.inv z) = .one := by
  refine Mv.ext' ?_ ?_
  · unfold Mv.add Mv.at_ Mv.inv Mv.one
    simp only
    rw [rI_inv' hz]
    apply Prod.ext <;> simp only <;> omega
  · unfold Mv.add Mv.inv Mv.one
    simp only
    rw [emodR, Int.add_right_neg, Int.zero_emod]
theorem Mv.inv_uniq (hz : Net z) (hb : b.ok z) (h : a.add z b = .one) : a.inv z = b := by
  have e : (a.inv z).add z (a.add z b) = b := by rw [← Mv.assoc hz, Mv.inv_add hz, Mv.one_add hb]
  rw [h, Mv.add_one Mv.ok_inv] at e
  exact e
theorem Mv.inv_inv (hz : Net z) (ha : a.ok z) : (a.inv z).inv z = a := Mv.inv_uniq hz ha (Mv.inv_add hz)
theorem Mv.inv_of_add (hz : Net z) : (a.add z b).inv z = (b.inv z).add z (a.inv z) := by
  refine Mv.inv_uniq hz Mv.ok_add ?_
  rw [Mv.assoc hz, ← Mv.assoc (a := b) hz, Mv.add_inv hz, Mv.one_add Mv.ok_inv, Mv.add_inv hz]
theorem Mv.add_sub (hz : Net z) (ha : a.ok z) : (a.add z b).add z (b.inv z) = a := by rw [Mv.assoc hz, Mv.add_inv hz, Mv.add_one ha]
end
end Lw

namespace Lw
open PySem PySem.Spec PyProof.Rows L2

/-! ### movements in a store -/
section
variable {n : Nat} {B : Sto} {L L' : List (Nat × O)} {S S0 S' : Sto} {j j2 i : Nat} {o : O} {ds xs : List D} {q : QD} {x : QX} {z : Str} {a b m k : Mv} {u v t : Int} {K : QD} {p : Int × Int}
abbrev pD (p : Int × Int) : D := .tup [.int p.1, .int p.2]
theorem turnedI_ok (hz : Net z) (h0 : 0 ≤ t) (h1 : t < hc z) (h : q (pD (rI z t p)) S) : u_turned [.str z, pD p, .int t] S q x := by
  refine turned_ok hz h0 (by have := hc_le z; omega) ?_
  have e : (p.1, p.2) = p := rfl
  rw [e, rI_of h0 h1]
  exact h
theorem mNe_pl : mNe (pD p) (pD p) S q = q (.bl false) S := by
  have e : tree 9 S (pD p) = some (.tuple [.int p.1, .int p.2]) := rfl
  have s : SeqAt.shaped (.tuple [.int p.1, .int p.2]) = true := by simp [SeqAt.shaped, PyData.canLay0, PyData.canLayAll0, PyData.depth, PyData.depthAll]
  unfold mNe
  simp only [e, s, PyData.eqv, PyData.eqvAll, true_and, and_self, Bool.and_true, beq_self_eq_true, Bool.not_true]
theorem mEq_bl {u v : Bool} : mEq (.bl u) (.bl v) S q = q (.bl (u == v)) S := by
  have e : ∀ u, tree 9 S (.bl u) = some (.bool u) := fun _ => rfl
  have s : ∀ u, SeqAt.shaped (.bool u) = true := fun u => by simp [SeqAt.shaped, PyData.canLay0, PyData.depth]
  unfold mEq
  simp only [e, s, PyData.eqv, true_and, and_self]
def Mv.beq (a b : Mv) : Bool := (a.p.1 == b.p.1 && a.p.2 == b.p.2) && a.t == b.t
theorem Mv.beq_refl : Mv.beq a a = true := by simp [Mv.beq]
theorem Mv.beq_iff : Mv.beq a b = true ↔ a = b := by
  constructor
  · intro h
    simp only [Mv.beq, Bool.and_eq_true, beq_iff_eq] at h
    exact Mv.ext' (Prod.ext h.1.1 h.1.2) h.2
  · rintro rfl; exact Mv.beq_refl
/-! drawn movements -/
end
end Lw

namespace Lw
open PySem PySem.Spec PyProof.Rows L2

section
variable {n : Nat} {B : Sto} {L L' : List (Nat × O)} {S S0 S' : Sto} {j j2 i : Nat} {o : O} {ds xs : List D} {q : QD} {x : QX} {z : Str} {a b c m k : Mv} {u v t : Int} {K : QD} {p : Int × Int}
theorem steps_w (w : W n B L S) (hz : Net z) (h : ∀ i S' ds, (ds.length : Int) = hc z → W n B ((i, .lst ds) :: L) S' → q (.ref i) S') : u__law_steps [.str z] S q x :=
  steps_ok hz fun ds hds => h _ _ ds hds (w.new rfl rfl)
theorem rotated_w (w : W n B L S) (hz : Net z) (h0 : 0 ≤ t) (h1 : t < hc z) (h : ∀ S', W n B L S' → q (pD (rI z t p)) S') : u__law_rotated [.str z, pD p, .int t] S q x := by
  rw [e_u__law_rotated, e_b__law_rotated, e_b__law_rotated_2, e_b__law_rotated_1]
  simp only [e_mNext, e_mSeq, e_mExpr, e_mRet, e_mRetN, e_mIfS, e_mBreak, e_mCont, e_mAsg, e_mPar, e_gmName, e_gmNil, e_gmCons, e_gmTup, e_gmSub, e_mVar, e_mC, e_mOp, e_mtB, e_mtT, e_mtNot, e_mtAnd, e_mtOr, e_mAnd, e_mOr, e_mAndT, e_mOrT, e_mIf, e_mNotB, e_mChain, e_maNil, e_maCons, e_mTup, e_mCall, e_mFld, e_mProp, e_mMeth, e_mUnO, e_mBinO, e_mCallO, e_mCMeth, e_mRaise, e_mTry, e_mFn, e_mNeg, e_mIsiB, e_mIsiO, e_mFor, e_miRange1, e_miRange2, e_miTup, e_body, e_addII, e_addIB, e_addSS, e_addTT, e_subII, e_mulII, e_fdivII, e_modII, e_powII, e_ltII, e_leII, e_gtII, e_geII, e_is, e_isNot, e_ixT, e_ixS, e_ixD, e_inD, e_fLenS, e_fLenT, e_fMax2, e_fMin2, e_fAbs, e_fIntI, e_fIntB, e_fBoolI, e_fBoolB, e_mExcF, e_tryNil, e_tryCons, e_mBM, e_mEqO, e_mNeO, e_fLenO, e_fBoolO, e_mtTO, e_mInO, e_mNotInO, e_mGetO, e_mtYes, putD, List.getElem?_cons_zero, List.getElem?_cons_succ, List.set_cons_zero, List.set_cons_succ, List.map_cons, List.map_nil, List.length_cons, List.length_nil, List.cons_append, List.nil_append, List.append_nil, List.replicate, Nat.reduceAdd, Nat.reduceSub, Nat.reduceLeDiff, Nat.zero_add, true_and, and_true, reduceIte, Bool.false_eq_true, Bool.true_eq_false, Bool.not_true, Bool.not_false, w_mLst, w_mMake, w_miLst, w_gmUnl, w_mComp, compL_nil, w_compL, w_mSetF, w_addRR]
  refine steps_w w hz fun i S1 ds hds w => ?_
  refine len_ok w (by repeat (first | exact List.Mem.head _ | apply List.Mem.tail)) ?_
  rw [hds]
  have hk := hc_pos z
  have hl := hc_le z
  simp only [e_mNext, e_mSeq, e_mExpr, e_mRet, e_mRetN, e_mIfS, e_mBreak, e_mCont, e_mAsg, e_mPar, e_gmName, e_gmNil, e_gmCons, e_gmTup, e_gmSub, e_mVar, e_mC, e_mOp, e_mtB, e_mtT, e_mtNot, e_mtAnd, e_mtOr, e_mAnd, e_mOr, e_mAndT, e_mOrT, e_mIf, e_mNotB, e_mChain, e_maNil, e_maCons, e_mTup, e_mCall, e_mFld, e_mProp, e_mMeth, e_mUnO, e_mBinO, e_mCallO, e_mCMeth, e_mRaise, e_mTry, e_mFn, e_mNeg, e_mIsiB, e_mIsiO, e_mFor, e_miRange1, e_miRange2, e_miTup, e_body, e_addII, e_addIB, e_addSS, e_addTT, e_subII, e_mulII, e_fdivII, e_modII, e_powII, e_ltII, e_leII, e_gtII, e_geII, e_is, e_isNot, e_ixT, e_ixS, e_ixD, e_inD, e_fLenS, e_fLenT, e_fMax2, e_fMin2, e_fAbs, e_fIntI, e_fIntB, e_fBoolI, e_fBoolB, e_mExcF, e_tryNil, e_tryCons, e_mBM, e_mEqO, e_mNeO, e_fLenO, e_fBoolO, e_mtTO, e_mInO, e_mNotInO, e_mGetO, e_mtYes, putD, List.getElem?_cons_zero, List.getElem?_cons_succ, List.set_cons_zero, List.set_cons_succ, List.map_cons, List.map_nil, List.length_cons, List.length_nil, List.cons_append, List.nil_append, List.append_nil, List.replicate, Nat.reduceAdd, Nat.reduceSub, Nat.reduceLeDiff, Nat.zero_add, true_and, and_true, reduceIte, Bool.false_eq_true, Bool.true_eq_false, Bool.not_true, Bool.not_false, w_mLst, w_mMake, w_miLst, w_gmUnl, w_mComp, compL_nil, w_compL, w_mSetF, w_addRR]
  rw [Int.emod_eq_of_lt h0 h1]
  refine ⟨hk, ⟨by omega, by omega⟩, ?_⟩
  refine forL_ind (fun items sd S' => W n B ((i, .lst ds) :: L) S' ∧ ∃ (r : Int × Int) (c : Option D), sd = [some (.str z), some (pD p), some (.int t), some (.int r.1), some (.int r.2), c] ∧ rotN z items.length r = rotN z t.toNat p) ?_ ?_ _ _ _ ⟨w, p, none, rfl, by rw [rangeD_len]⟩
  · rintro sd S' ⟨w, r, c, rfl, e⟩
    simp only [e_mNext, e_mSeq, e_mExpr, e_mRet, e_mRetN, e_mIfS, e_mBreak, e_mCont, e_mAsg, e_mPar, e_gmName, e_gmNil, e_gmCons, e_gmTup, e_gmSub, e_mVar, e_mC, e_mOp, e_mtB, e_mtT, e_mtNot, e_mtAnd, e_mtOr, e_mAnd, e_mOr, e_mAndT, e_mOrT, e_mIf, e_mNotB, e_mChain, e_maNil, e_maCons, e_mTup, e_mCall, e_mFld, e_mProp, e_mMeth, e_mUnO, e_mBinO, e_mCallO, e_mCMeth, e_mRaise, e_mTry, e_mFn, e_mNeg, e_mIsiB, e_mIsiO, e_mFor, e_miRange1, e_miRange2, e_miTup, e_body, e_addII, e_addIB, e_addSS, e_addTT, e_subII, e_mulII, e_fdivII, e_modII, e_powII, e_ltII, e_leII, e_gtII, e_geII, e_is, e_isNot, e_ixT, e_ixS, e_ixD, e_inD, e_fLenS, e_fLenT, e_fMax2, e_fMin2, e_fAbs, e_fIntI, e_fIntB, e_fBoolI, e_fBoolB, e_mExcF, e_tryNil, e_tryCons, e_mBM, e_mEqO, e_mNeO, e_fLenO, e_fBoolO, e_mtTO, e_mInO, e_mNotInO, e_mGetO, e_mtYes, putD, List.getElem?_cons_zero, List.getElem?_cons_succ, List.set_cons_zero, List.set_cons_succ, List.map_cons, List.map_nil, List.length_cons, List.length_nil, List.cons_append, List.nil_append, List.append_nil, List.replicate, Nat.reduceAdd, Nat.reduceSub, Nat.reduceLeDiff, Nat.zero_add, true_and, and_true, reduceIte, Bool.false_eq_true, Bool.true_eq_false, Bool.not_true, Bool.not_false, w_mLst, w_mMake, w_miLst, w_gmUnl, w_mComp, compL_nil, w_compL, w_mSetF, w_addRR]
    refine ⟨(sl_pos (by simp)), ?_⟩
    have e' : r = rI z t p := by rw [← rI_of h0 h1]; exact e
    subst e'
    exact h S' (w.sub fun _ _ m => .tail _ m)
  · rintro d ds' sd S' ⟨w, r, c, rfl, e⟩ ih
    refine ⟨trivial, ?_⟩
    simp only [e_mNext, e_mSeq, e_mExpr, e_mRet, e_mRetN, e_mIfS, e_mBreak, e_mCont, e_mAsg, e_mPar, e_gmName, e_gmNil, e_gmCons, e_gmTup, e_gmSub, e_mVar, e_mC, e_mOp, e_mtB, e_mtT, e_mtNot, e_mtAnd, e_mtOr, e_mAnd, e_mOr, e_mAndT, e_mOrT, e_mIf, e_mNotB, e_mChain, e_maNil, e_maCons, e_mTup, e_mCall, e_mFld, e_mProp, e_mMeth, e_mUnO, e_mBinO, e_mCallO, e_mCMeth, e_mRaise, e_mTry, e_mFn, e_mNeg, e_mIsiB, e_mIsiO, e_mFor, e_miRange1, e_miRange2, e_miTup, e_body, e_addII, e_addIB, e_addSS, e_addTT, e_subII, e_mulII, e_fdivII, e_modII, e_powII, e_ltII, e_leII, e_gtII, e_geII, e_is, e_isNot, e_ixT, e_ixS, e_ixD, e_inD, e_fLenS, e_fLenT, e_fMax2, e_fMin2, e_fAbs, e_fIntI, e_fIntB, e_fBoolI, e_fBoolB, e_mExcF, e_tryNil, e_tryCons, e_mBM, e_mEqO, e_mNeO, e_fLenO, e_fBoolO, e_mtTO, e_mInO, e_mNotInO, e_mGetO, e_mtYes, putD, List.getElem?_cons_zero, List.getElem?_cons_succ, List.set_cons_zero, List.set_cons_succ, List.map_cons, List.map_nil, List.length_cons, List.length_nil, List.cons_append, List.nil_append, List.append_nil, List.replicate, Nat.reduceAdd, Nat.reduceSub, Nat.reduceLeDiff, Nat.zero_add, true_and, and_true, reduceIte, Bool.false_eq_true, Bool.true_eq_false, Bool.not_true, Bool.not_false, w_mLst, w_mMake, w_miLst, w_gmUnl, w_mComp, compL_nil, w_compL, w_mSetF, w_addRR]
    rw [mEq_str (strOk_net hz) (by decide +kernel)]
    simp only [e_mNext, e_mSeq, e_mExpr, e_mRet, e_mRetN, e_mIfS, e_mBreak, e_mCont, e_mAsg, e_mPar, e_gmName, e_gmNil, e_gmCons, e_gmTup, e_gmSub, e_mVar, e_mC, e_mOp, e_mtB, e_mtT, e_mtNot, e_mtAnd, e_mtOr, e_mAnd, e_mOr, e_mAndT, e_mOrT, e_mIf, e_mNotB, e_mChain, e_maNil, e_maCons, e_mTup, e_mCall, e_mFld, e_mProp, e_mMeth, e_mUnO, e_mBinO, e_mCallO, e_mCMeth, e_mRaise, e_mTry, e_mFn, e_mNeg, e_mIsiB, e_mIsiO, e_mFor, e_miRange1, e_miRange2, e_miTup, e_body, e_addII, e_addIB, e_addSS, e_addTT, e_subII, e_mulII, e_fdivII, e_modII, e_powII, e_ltII, e_leII, e_gtII, e_geII, e_is, e_isNot, e_ixT, e_ixS, e_ixD, e_inD, e_fLenS, e_fLenT, e_fMax2, e_fMin2, e_fAbs, e_fIntI, e_fIntB, e_fBoolI, e_fBoolB, e_mExcF, e_tryNil, e_tryCons, e_mBM, e_mEqO, e_mNeO, e_fLenO, e_fBoolO, e_mtTO, e_mInO, e_mNotInO, e_mGetO, e_mtYes, putD, List.getElem?_cons_zero, List.getElem?_cons_succ, List.set_cons_zero, List.set_cons_succ, List.map_cons, List.map_nil, List.length_cons, List.length_nil, List.cons_append, List.nil_append, List.append_nil, List.replicate, Nat.reduceAdd, Nat.reduceSub, Nat.reduceLeDiff, Nat.zero_add, true_and, and_true, reduceIte, Bool.false_eq_true, Bool.true_eq_false, Bool.not_true, Bool.not_false, w_mLst, w_mMake, w_miLst, w_gmUnl, w_mComp, compL_nil, w_compL, w_mSetF, w_addRR]
    refine ⟨cmul_r (by split <;> decide) (by split <;> decide), ?_⟩
    refine ih _ _ ⟨w, (0 - r.2, r.1 + r.2 * (if (z == "triangle") = true then 1 else 0)), some d, rfl, ?_⟩
    have e2 : (0 - r.2, r.1 + r.2 * (if (z == "triangle") = true then (1 : Int) else 0)) = rot1 z r := by
      unfold rot1
      rcases hz with rfl | rfl
      · have e3 : (("square" : Str) == "triangle") = false := by decide
        rw [if_pos rfl, e3]
        simp
      · simp only [beq_self_eq_true, if_true, tri_ne, if_false]
        apply Prod.ext <;> simp only <;> omega
    rw [e2]
    exact e
/-! the law -/
variable {md : MEnds} {c0 c1 c2 c3 c4 c5 c6 c7 c8 c9 c10 : Option D}
/-- what is noted of a movement -/
def notes (z : Str) (m : Mv) : List D := [.str z, pD m.p, .int m.t]
def notesP (z : Str) (m : Mv) : PyData := .list [.str z, .tuple [.int m.p.1, .int m.p.2], .int m.t]
end
end Lw

namespace Lw
open PySem PySem.Spec PyProof.Rows L2

/-! ### symmetries, plainly -/
def flip (z : Str) (p : Int × Int) : Int × Int := if z = "square" then (p.1, -p.2) else (p.1 + p.2, -p.2)
def lin (z : Str) (t : Int) (f : Bool) (p : Int × Int) : Int × Int := rI z t (if f = true then flip z p else p)
structure Sy where
  p : Int × Int
  t : Int
  f : Bool
def Sy.ok (z : Str) (m : Sy) : Prop := 0 ≤ m.t ∧ m.t < hc z
def Sy.at_ (z : Str) (m : Sy) (p : Int × Int) : Int × Int := (m.p.1 + (lin z m.t m.f p).1, m.p.2 + (lin z m.t m.f p).2)
def Sy.mul (z : Str) (a b : Sy) : Sy := ⟨b.at_ z a.p, (b.t + (if b.f = true then -a.t else a.t)) % hc z, a.f != b.f⟩
def Sy.inv (z : Str) (a : Sy) : Sy := ⟨lin z (if a.f = true then a.t else (-a.t) % hc z) a.f (-a.p.1, -a.p.2), (if a.f = true then a.t else (-a.t) % hc z), a.f⟩
def Sy.one : Sy := ⟨(0, 0), 0, false⟩
section
variable {z : Str} {a b c m : Sy} {p q : Int × Int} {t s : Int} {f g : Bool}
theorem flip_flip : flip z (flip z p) = p := by
  unfold flip
  split <;> (apply Prod.ext <;> simp only <;> omega)
theorem flip_lin (p q : Int × Int) : flip z (p.1 + q.1, p.2 + q.2) = ((flip z p).1 + (flip z q).1, (flip z p).2 + (flip z q).2) := by
  unfold flip
  split <;> (apply Prod.ext <;> simp only <;> omega)
theorem flip_neg (p : Int × Int) : flip z (-p.1, -p.2) = (-(flip z p).1, -(flip z p).2) := by
  unfold flip
  split <;> (apply Prod.ext <;> simp only <;> omega)
theorem flip_rot1 (p : Int × Int) : rot1 z (flip z (rot1 z p)) = flip z p := by
  unfold flip rot1
  split <;> (apply Prod.ext <;> simp only <;> omega)
theorem flip_rotN : ∀ (n : Nat) (p : Int × Int), rotN z n (flip z (rotN z n p)) = flip z p
  | 0, p => rfl
  | n + 1, p => by
    rw [rotN_succ' z n (flip z (rotN z (n + 1) p))]
    show rot1 z (rotN z n (flip z (rotN z n (rot1 z p)))) = _
    rw [flip_rotN n, flip_rot1]
theorem flip_rI (hz : Net z) (t : Int) (p : Int × Int) : flip z (rI z t p) = rI z (-t) (flip z p) := by
  have h : rI z t (flip z (rI z t p)) = flip z p := flip_rotN _ p
  rw [← h, rI_inv hz]
theorem lin_mod : lin z (t % hc z) f p = lin z t f p := rI_mod _
theorem lin_lin (p q : Int × Int) : lin z t f (p.1 + q.1, p.2 + q.2) = ((lin z t f p).1 + (lin z t f q).1, (lin z t f p).2 + (lin z t f q).2) := by
  unfold lin
  cases f
  · exact rI_lin t p q
  · simp only [if_true]
    rw [flip_lin, rI_lin]
theorem lin_neg (p : Int × Int) : lin z t f (-p.1, -p.2) = (-(lin z t f p).1, -(lin z t f p).2) := by
  unfold lin
  cases f
  · exact rI_neg t p
  · simp only [if_true]
    rw [flip_neg, rI_neg]
theorem lin_comp (hz : Net z) (p : Int × Int) : lin z t g (lin z s f p) = lin z (t + (if g = true then -s else s)) (f != g) p := by
  unfold lin
  cases f <;> cases g <;> simp only [if_true, Bool.false_eq_true, if_false, bne_self_eq_false, Bool.true_bne, Bool.false_bne, Bool.not_false, Bool.not_true, bne]
  · rw [rI_add hz]; rfl
  · rw [flip_rI hz, rI_add hz]; rfl
  · rw [rI_add hz]; rfl
  · rw [flip_rI hz, flip_flip, rI_add hz]; rfl
theorem lin_one : lin z 0 false p = p := rI_zero p
theorem Sy.ext' (h : a.p = b.p) (h2 : a.t = b.t) (h3 : a.f = b.f) : a = b := by cases a; cases b; cases h; cases h2; cases h3; rfl
theorem Sy.ok_mul : (a.mul z b).ok z := ⟨Int.emod_nonneg _ (Int.ne_of_gt (hc_pos z)), Int.emod_lt_of_pos _ (hc_pos z)⟩
theorem Sy.ok_inv (h : a.ok z) : (a.inv z).ok z := by
  unfold Sy.inv Sy.ok
  simp only
  split
  · exact h
  · exact ⟨Int.emod_nonneg _ (Int.ne_of_gt (hc_pos z)), Int.emod_lt_of_pos _ (hc_pos z)⟩
theorem Sy.ok_one : Sy.one.ok z := ⟨Int.le_refl _, hc_pos z⟩
theorem Sy.tmod (h : m.ok z) : m.t % hc z = m.t := Int.emod_eq_of_lt h.1 h.2
theorem Sy.at_mul (hz : Net z) : (a.mul z b).at_ z p = b.at_ z (a.at_ z p) := by
  unfold Sy.mul Sy.at_
  simp only
  rw [lin_mod, lin_lin, lin_comp hz]
  apply Prod.ext <;> simp only <;> omega
theorem Sy.at_one : Sy.one.at_ z p = p := by
  unfold Sy.at_ Sy.one
  rw [lin_one]
  apply Prod.ext <;> simp only <;> omega
theorem Sy.at_nul : a.at_ z (0, 0) = a.p := by
  unfold Sy.at_
  have h : lin z a.t a.f (0, 0) = (0, 0) := by
    have h2 := lin_neg (z := z) (t := a.t) (f := a.f) (0, 0)
    simp only [Int.neg_zero] at h2
    have e1 := congrArg Prod.fst h2
    have e2 := congrArg Prod.snd h2
    simp only at e1 e2
    apply Prod.ext <;> simp only <;> omega
  rw [h]
  apply Prod.ext <;> simp only <;> omega
theorem emod_ng (x y : Int) (n : Int) : (x + -(y % n)) % n = (x - y) % n := by
  rw [← Int.sub_eq_add_neg, Int.sub_emod, Int.emod_emod, ← Int.sub_emod]
theorem Sy.assoc (hz : Net z) : (a.mul z b).mul z c = a.mul z (b.mul z c) := by
  refine Sy.ext' (Sy.at_mul hz).symm ?_ ?_
  · unfold Sy.mul
    simp only
    cases b.f <;> cases c.f
    · show (c.t + (b.t + a.t) % hc z) % hc z = ((c.t + b.t) % hc z + a.t) % hc z
      rw [emodR, emodL]; congr 1; omega
    · show (c.t + -((b.t + a.t) % hc z)) % hc z = ((c.t + -b.t) % hc z + -a.t) % hc z
      rw [emod_ng, emodL]; congr 1; omega
    · show (c.t + (b.t + -a.t) % hc z) % hc z = ((c.t + b.t) % hc z + -a.t) % hc z
      rw [emodR, emodL]; congr 1; omega
    · show (c.t + -((b.t + -a.t) % hc z)) % hc z = ((c.t + -b.t) % hc z + a.t) % hc z
      rw [emod_ng, emodL]; congr 1; omega
  · unfold Sy.mul
    simp only
    cases a.f <;> cases b.f <;> cases c.f <;> rfl
theorem Sy.mul_one (h : a.ok z) : a.mul z .one = a := by
  refine Sy.ext' Sy.at_one ?_ ?_
  · unfold Sy.mul Sy.one
    simp only [Bool.false_eq_true, if_false, Int.zero_add]
    exact Sy.tmod h
  · unfold Sy.mul Sy.one
    simp
theorem Sy.one_mul (h : a.ok z) : Sy.one.mul z a = a := by
  refine Sy.ext' Sy.at_nul ?_ ?_
  · unfold Sy.mul Sy.one
    simp only [Int.neg_zero, ite_self, Int.add_zero]
    exact Sy.tmod h
  · unfold Sy.mul Sy.one
    simp
theorem Sy.mul_inv (hz : Net z) : a.mul z (a.inv z) = .one := by
  refine Sy.ext' ?_ ?_ ?_
  · unfold Sy.mul Sy.inv Sy.at_ Sy.one
    simp only
    rw [lin_neg]
    apply Prod.ext <;> simp only <;> omega
  · unfold Sy.mul Sy.inv Sy.one
    simp only
    cases a.f
    · simp only [Bool.false_eq_true, if_false]
      rw [emodL, Int.add_left_neg, Int.zero_emod]
    · simp only [if_true]
      rw [Int.add_right_neg, Int.zero_emod]
  · unfold Sy.mul Sy.inv Sy.one
    simp
theorem Sy.inv_mul (hz : Net z) : (a.inv z).mul z a = .one := by
  refine Sy.ext' ?_ ?_ ?_
  · unfold Sy.mul Sy.inv Sy.at_ Sy.one
    simp only
    rw [lin_comp hz]
    have e : lin z (a.t + (if a.f = true then -(if a.f = true then a.t else (-a.t) % hc z) else (if a.f = true then a.t else (-a.t) % hc z))) (a.f != a.f) (-a.p.1, -a.p.2) = (-a.p.1, -a.p.2) := by
      rw [bne_self_eq_false]
      cases a.f
      · simp only [Bool.false_eq_true, if_false]
        rw [← lin_mod, emodR, Int.add_right_neg, Int.zero_emod, lin_one]
      · simp only [if_true]
        rw [Int.add_right_neg, lin_one]
    rw [e]
    apply Prod.ext <;> simp only <;> omega
  · unfold Sy.mul Sy.inv Sy.one
    simp only
    cases a.f
    · simp only [Bool.false_eq_true, if_false]
      rw [emodR, Int.add_right_neg, Int.zero_emod]
    · simp only [if_true]
      rw [Int.add_right_neg, Int.zero_emod]
  · unfold Sy.mul Sy.inv Sy.one
    simp
theorem Sy.inv_uniq (hz : Net z) (ha : a.ok z) (hb : b.ok z) (h : a.mul z b = .one) : a.inv z = b := by
  have e : (a.inv z).mul z (a.mul z b) = b := by rw [← Sy.assoc hz, Sy.inv_mul hz, Sy.one_mul hb]
  rw [h, Sy.mul_one (Sy.ok_inv ha)] at e
  exact e
theorem Sy.inv_of_mul (hz : Net z) (ha : a.ok z) (hb : b.ok z) : (a.mul z b).inv z = (b.inv z).mul z (a.inv z) := by
  refine Sy.inv_uniq hz Sy.ok_mul Sy.ok_mul ?_
  rw [Sy.assoc hz, ← Sy.assoc (a := b) hz, Sy.mul_inv hz, Sy.one_mul (Sy.ok_inv ha), Sy.mul_inv hz]
theorem Sy.back (hz : Net z) : (a.inv z).at_ z (a.at_ z p) = p := by rw [← Sy.at_mul hz, Sy.mul_inv hz, Sy.at_one]
def Sy.beq (a b : Sy) : Bool := (a.t == b.t && a.f == b.f) && (a.p.1 == b.p.1 && a.p.2 == b.p.2)
theorem Sy.beq_refl : Sy.beq a a = true := by simp [Sy.beq]
theorem Sy.beq_iff : Sy.beq a b = true ↔ a = b := by
  constructor
  · intro h
    simp only [Sy.beq, Bool.and_eq_true, beq_iff_eq] at h
    exact Sy.ext' (Prod.ext h.2.1 h.2.2) h.1.1 h.1.2
  · rintro rfl; exact Sy.beq_refl
/-! the steps of a net -/
def stp (z : Str) : List (Int × Int) := if z = "square" then [(1, 0), (0, 1), (-1, 0), (0, -1)] else [(1, 0), (0, 1), (-1, 1), (-1, 0), (0, -1), (1, -1)]
theorem stp_sq : stp "square" = [(1, 0), (0, 1), (-1, 0), (0, -1)] := rfl
theorem stp_tri : stp "triangle" = [(1, 0), (0, 1), (-1, 1), (-1, 0), (0, -1), (1, -1)] := by unfold stp; rw [if_neg (by rw [tri_ne]; exact id)]
theorem stp_len (hz : Net z) : ((stp z).length : Int) = hc z := by
  rcases hz with rfl | rfl
  · rfl
  · rw [stp_tri, hc_tri]; rfl
theorem rot1_stp (hz : Net z) : ∀ e ∈ stp z, rot1 z e ∈ stp z := by
  rcases hz with rfl | rfl
  · rw [stp_sq]
    unfold rot1
    simp
  · rw [stp_tri]
    unfold rot1
    simp [tri_ne]
theorem rotN_stp (hz : Net z) : ∀ (n : Nat), ∀ e ∈ stp z, rotN z n e ∈ stp z
  | 0, e, h => h
  | n + 1, e, h => rotN_stp hz n _ (rot1_stp hz e h)
theorem flip_stp (hz : Net z) : ∀ e ∈ stp z, flip z e ∈ stp z := by
  rcases hz with rfl | rfl
  · rw [stp_sq]
    unfold flip
    simp
  · rw [stp_tri]
    unfold flip
    simp [tri_ne]
theorem lin_stp (hz : Net z) (e : Int × Int) (h : e ∈ stp z) : lin z t f e ∈ stp z := by
  unfold lin rI
  cases f
  · exact rotN_stp hz _ _ h
  · exact rotN_stp hz _ _ (flip_stp hz e h)
end
end Lw

namespace Lw
open PySem PySem.Spec PyProof.Rows L2

/-! ### symmetries in a store -/
def syF (z : Str) (m : Sy) : List (Str × D) := [("own_net", .str z), ("own_place", pD m.p), ("own_turn", .int m.t), ("own_mirrored", .bl m.f)]
def syo (z : Str) (m : Sy) : O := .ins "Symmetry" (syF z m)
theorem n_np : (("own_net" : Str) = "own_place") = False := by simp; decide
theorem n_nt : (("own_net" : Str) = "own_turn") = False := by simp; decide
theorem n_nm : (("own_net" : Str) = "own_mirrored") = False := by simp; decide
theorem n_pt : (("own_place" : Str) = "own_turn") = False := by simp; decide
theorem n_pm : (("own_place" : Str) = "own_mirrored") = False := by simp; decide
theorem n_tm : (("own_turn" : Str) = "own_mirrored") = False := by simp; decide
theorem sf_net {z : Str} {m : Sy} : (syF z m).lookup ("own_net" : Str) = some (.str z) := by simp [syF, List.lookup]
theorem sf_place {z : Str} {m : Sy} : (syF z m).lookup ("own_place" : Str) = some (pD m.p) := by
  have e : (("own_place" : Str) == "own_net") = false := by decide
  simp [syF, List.lookup, e]
theorem sf_turn {z : Str} {m : Sy} : (syF z m).lookup ("own_turn" : Str) = some (.int m.t) := by
  have e : (("own_turn" : Str) == "own_net") = false := by decide
  have e2 : (("own_turn" : Str) == "own_place") = false := by decide
  simp [syF, List.lookup, e, e2]
theorem sf_mir {z : Str} {m : Sy} : (syF z m).lookup ("own_mirrored" : Str) = some (.bl m.f) := by
  have e : (("own_mirrored" : Str) == "own_net") = false := by decide
  have e2 : (("own_mirrored" : Str) == "own_place") = false := by decide
  have e3 : (("own_mirrored" : Str) == "own_turn") = false := by decide
  simp [syF, List.lookup, e, e2, e3]
theorem sf_moved {z : Str} {m : Sy} : (syF z m).lookup ("moved" : Str) = none := by
  have e : (("moved" : Str) == "own_net") = false := by decide
  have e2 : (("moved" : Str) == "own_place") = false := by decide
  have e3 : (("moved" : Str) == "own_turn") = false := by decide
  have e4 : (("moved" : Str) == "own_mirrored") = false := by decide
  simp [syF, List.lookup, e, e2, e3, e4]
theorem cls_sy : ("Symmetry" : Str) ∈ CLS := by simp [CLS]
theorem tyD_sy {S : Sto} {m : Nat} {z : Str} {a : Sy} (h : S[m]? = some (syo z a)) : tyD S (.ref m) = some (.o "Symmetry") := by
  simp only [tyD, h, syo]
section
variable {n : Nat} {B : Sto} {L L' : List (Nat × O)} {S S0 S' : Sto} {j j2 i : Nat} {o : O} {ds xs : List D} {q : QD} {x : QX} {z z2 : Str} {a b m : Sy} {u v t k r : Int} {f g : Bool} {K : QD} {p p2 : Int × Int} {md : MEnds}
theorem mNe_bl {u v : Bool} : mNe (.bl u) (.bl v) S q = q (.bl (u != v)) S := by
  have e : ∀ u, tree 9 S (.bl u) = some (.bool u) := fun _ => rfl
  have s : ∀ u, SeqAt.shaped (.bool u) = true := fun u => by simp [SeqAt.shaped, PyData.canLay0, PyData.depth]
  unfold mNe
  simp only [e, s, PyData.eqv, true_and, and_self, bne]
theorem mNe_int' {S : Sto} {i j : Int} {q : QD} : mNe (.int i) (.int j) S q = q (.bl (!(i == j))) S := propext mNe_int
theorem syw (w : W n B L S0) (ej : j = S0.length) (eS : S = S0 ++ [.ins "Symmetry" []]) (hz : Net z) (h0 : 0 ≤ t) (h1 : t < hc z) (h : ∀ S', W n B ((j, syo z ⟨p, t, f⟩) :: L) S' → K .non S') : u_Symmetry_init [.ref j, .str z, pD p, .int t, .bl f] S K x := by
  have hB : B.length ≤ j := by have := w.fr.len; omega
  have hL : ∀ i u, (i, u) ∈ L → i ≠ j := fun i u m => by have := w.lt m; omega
  replace w := w.new ej eS
  rw [e_u_Symmetry_init, e_b_Symmetry_init, e_b_Symmetry_init_6, e_b_Symmetry_init_5, e_b_Symmetry_init_4, e_b_Symmetry_init_3, e_b_Symmetry_init_2, e_b_Symmetry_init_1]
  simp only [e_mNext, e_mSeq, e_mExpr, e_mRet, e_mRetN, e_mIfS, e_mBreak, e_mCont, e_mAsg, e_mPar, e_gmName, e_gmNil, e_gmCons, e_gmTup, e_gmSub, e_mVar, e_mC, e_mOp, e_mtB, e_mtT, e_mtNot, e_mtAnd, e_mtOr, e_mAnd, e_mOr, e_mAndT, e_mOrT, e_mIf, e_mNotB, e_mChain, e_maNil, e_maCons, e_mTup, e_mCall, e_mFld, e_mProp, e_mMeth, e_mUnO, e_mBinO, e_mCallO, e_mCMeth, e_mRaise, e_mTry, e_mFn, e_mNeg, e_mIsiB, e_mIsiO, e_mFor, e_miRange1, e_miRange2, e_miTup, e_body, e_addII, e_addIB, e_addSS, e_addTT, e_subII, e_mulII, e_fdivII, e_modII, e_powII, e_ltII, e_leII, e_gtII, e_geII, e_is, e_isNot, e_ixT, e_ixS, e_ixD, e_inD, e_fLenS, e_fLenT, e_fMax2, e_fMin2, e_fAbs, e_fIntI, e_fIntB, e_fBoolI, e_fBoolB, e_mExcF, e_tryNil, e_tryCons, e_mBM, e_mEqO, e_mNeO, e_fLenO, e_fBoolO, e_mtTO, e_mInO, e_mNotInO, e_mGetO, e_mtYes, putD, List.getElem?_cons_zero, List.getElem?_cons_succ, List.set_cons_zero, List.set_cons_succ, List.map_cons, List.map_nil, List.length_cons, List.length_nil, List.cons_append, List.nil_append, List.append_nil, List.replicate, Nat.reduceAdd, Nat.reduceSub, Nat.reduceLeDiff, Nat.zero_add, true_and, and_true, reduceIte, Bool.false_eq_true, Bool.true_eq_false, Bool.not_true, Bool.not_false, w_mLst, w_mMake, w_miLst, w_gmUnl, w_mComp, compL_nil, w_compL, w_mSetF, w_addRR]
  refine check_net_ok True.intro (fun _ => ?_) (fun e => by rw [net_true hz] at e; cases e)
  refine check_place_ok True.intro (fun a b e => by cases e; exact ⟨True.intro, True.intro⟩) (fun _ => ?_) (fun e => by cases e)
  refine is_integer_ok True.intro ?_
  simp only [e_mNext, e_mSeq, e_mExpr, e_mRet, e_mRetN, e_mIfS, e_mBreak, e_mCont, e_mAsg, e_mPar, e_gmName, e_gmNil, e_gmCons, e_gmTup, e_gmSub, e_mVar, e_mC, e_mOp, e_mtB, e_mtT, e_mtNot, e_mtAnd, e_mtOr, e_mAnd, e_mOr, e_mAndT, e_mOrT, e_mIf, e_mNotB, e_mChain, e_maNil, e_maCons, e_mTup, e_mCall, e_mFld, e_mProp, e_mMeth, e_mUnO, e_mBinO, e_mCallO, e_mCMeth, e_mRaise, e_mTry, e_mFn, e_mNeg, e_mIsiB, e_mIsiO, e_mFor, e_miRange1, e_miRange2, e_miTup, e_body, e_addII, e_addIB, e_addSS, e_addTT, e_subII, e_mulII, e_fdivII, e_modII, e_powII, e_ltII, e_leII, e_gtII, e_geII, e_is, e_isNot, e_ixT, e_ixS, e_ixD, e_inD, e_fLenS, e_fLenT, e_fMax2, e_fMin2, e_fAbs, e_fIntI, e_fIntB, e_fBoolI, e_fBoolB, e_mExcF, e_tryNil, e_tryCons, e_mBM, e_mEqO, e_mNeO, e_fLenO, e_fBoolO, e_mtTO, e_mInO, e_mNotInO, e_mGetO, e_mtYes, putD, List.getElem?_cons_zero, List.getElem?_cons_succ, List.set_cons_zero, List.set_cons_succ, List.map_cons, List.map_nil, List.length_cons, List.length_nil, List.cons_append, List.nil_append, List.append_nil, List.replicate, Nat.reduceAdd, Nat.reduceSub, Nat.reduceLeDiff, Nat.zero_add, true_and, and_true, reduceIte, Bool.false_eq_true, Bool.true_eq_false, Bool.not_true, Bool.not_false, w_mLst, w_mMake, w_miLst, w_gmUnl, w_mComp, compL_nil, w_compL, w_mSetF, w_addRR, isIntD, h0, decide_true]
  refine heading_count_ok hz ?_
  simp only [e_mNext, e_mSeq, e_mExpr, e_mRet, e_mRetN, e_mIfS, e_mBreak, e_mCont, e_mAsg, e_mPar, e_gmName, e_gmNil, e_gmCons, e_gmTup, e_gmSub, e_mVar, e_mC, e_mOp, e_mtB, e_mtT, e_mtNot, e_mtAnd, e_mtOr, e_mAnd, e_mOr, e_mAndT, e_mOrT, e_mIf, e_mNotB, e_mChain, e_maNil, e_maCons, e_mTup, e_mCall, e_mFld, e_mProp, e_mMeth, e_mUnO, e_mBinO, e_mCallO, e_mCMeth, e_mRaise, e_mTry, e_mFn, e_mNeg, e_mIsiB, e_mIsiO, e_mFor, e_miRange1, e_miRange2, e_miTup, e_body, e_addII, e_addIB, e_addSS, e_addTT, e_subII, e_mulII, e_fdivII, e_modII, e_powII, e_ltII, e_leII, e_gtII, e_geII, e_is, e_isNot, e_ixT, e_ixS, e_ixD, e_inD, e_fLenS, e_fLenT, e_fMax2, e_fMin2, e_fAbs, e_fIntI, e_fIntB, e_fBoolI, e_fBoolB, e_mExcF, e_tryNil, e_tryCons, e_mBM, e_mEqO, e_mNeO, e_fLenO, e_fBoolO, e_mtTO, e_mInO, e_mNotInO, e_mGetO, e_mtYes, putD, List.getElem?_cons_zero, List.getElem?_cons_succ, List.set_cons_zero, List.set_cons_succ, List.map_cons, List.map_nil, List.length_cons, List.length_nil, List.cons_append, List.nil_append, List.append_nil, List.replicate, Nat.reduceAdd, Nat.reduceSub, Nat.reduceLeDiff, Nat.zero_add, true_and, and_true, reduceIte, Bool.false_eq_true, Bool.true_eq_false, Bool.not_true, Bool.not_false, w_mLst, w_mMake, w_miLst, w_gmUnl, w_mComp, compL_nil, w_compL, w_mSetF, w_addRR, h1, decide_true, tyD, isB, beq_self_eq_true, Bool.true_or]
  refine set_ok w hB hL (by simp) fun S1 w => ?_
  simp only [putD] at w
  refine set_ok w hB hL (by simp) fun S1 w => ?_
  simp only [putD, n_np, if_false] at w
  refine set_ok w hB hL (by simp) fun S1 w => ?_
  simp only [putD, n_nt, n_pt, if_false] at w
  refine set_ok w hB hL (by simp) fun S1 w => ?_
  simp only [putD, n_nm, n_pm, n_tm, if_false] at w
  exact h _ w
theorem flipped_ok (hz : Net z) (h : q (pD (flip z p)) S) : u_flipped [.str z, pD p] S q x := by
  rw [e_u_flipped, e_b_flipped]
  simp only [e_mNext, e_mSeq, e_mExpr, e_mRet, e_mRetN, e_mIfS, e_mBreak, e_mCont, e_mAsg, e_mPar, e_gmName, e_gmNil, e_gmCons, e_gmTup, e_gmSub, e_mVar, e_mC, e_mOp, e_mtB, e_mtT, e_mtNot, e_mtAnd, e_mtOr, e_mAnd, e_mOr, e_mAndT, e_mOrT, e_mIf, e_mNotB, e_mChain, e_maNil, e_maCons, e_mTup, e_mCall, e_mFld, e_mProp, e_mMeth, e_mUnO, e_mBinO, e_mCallO, e_mCMeth, e_mRaise, e_mTry, e_mFn, e_mNeg, e_mIsiB, e_mIsiO, e_mFor, e_miRange1, e_miRange2, e_miTup, e_body, e_addII, e_addIB, e_addSS, e_addTT, e_subII, e_mulII, e_fdivII, e_modII, e_powII, e_ltII, e_leII, e_gtII, e_geII, e_is, e_isNot, e_ixT, e_ixS, e_ixD, e_inD, e_fLenS, e_fLenT, e_fMax2, e_fMin2, e_fAbs, e_fIntI, e_fIntB, e_fBoolI, e_fBoolB, e_mExcF, e_tryNil, e_tryCons, e_mBM, e_mEqO, e_mNeO, e_fLenO, e_fBoolO, e_mtTO, e_mInO, e_mNotInO, e_mGetO, e_mtYes, putD, List.getElem?_cons_zero, List.getElem?_cons_succ, List.set_cons_zero, List.set_cons_succ, List.map_cons, List.map_nil, List.length_cons, List.length_nil, List.cons_append, List.nil_append, List.append_nil, List.replicate, Nat.reduceAdd, Nat.reduceSub, Nat.reduceLeDiff, Nat.zero_add, true_and, and_true, reduceIte, Bool.false_eq_true, Bool.true_eq_false, Bool.not_true, Bool.not_false, w_mLst, w_mMake, w_miLst, w_gmUnl, w_mComp, compL_nil, w_compL, w_mSetF, w_addRR]
  rw [mEq_str (strOk_net hz) (by decide +kernel)]
  unfold flip at h
  rcases hz with rfl | rfl
  · simp only [e_mNext, e_mSeq, e_mExpr, e_mRet, e_mRetN, e_mIfS, e_mBreak, e_mCont, e_mAsg, e_mPar, e_gmName, e_gmNil, e_gmCons, e_gmTup, e_gmSub, e_mVar, e_mC, e_mOp, e_mtB, e_mtT, e_mtNot, e_mtAnd, e_mtOr, e_mAnd, e_mOr, e_mAndT, e_mOrT, e_mIf, e_mNotB, e_mChain, e_maNil, e_maCons, e_mTup, e_mCall, e_mFld, e_mProp, e_mMeth, e_mUnO, e_mBinO, e_mCallO, e_mCMeth, e_mRaise, e_mTry, e_mFn, e_mNeg, e_mIsiB, e_mIsiO, e_mFor, e_miRange1, e_miRange2, e_miTup, e_body, e_addII, e_addIB, e_addSS, e_addTT, e_subII, e_mulII, e_fdivII, e_modII, e_powII, e_ltII, e_leII, e_gtII, e_geII, e_is, e_isNot, e_ixT, e_ixS, e_ixD, e_inD, e_fLenS, e_fLenT, e_fMax2, e_fMin2, e_fAbs, e_fIntI, e_fIntB, e_fBoolI, e_fBoolB, e_mExcF, e_tryNil, e_tryCons, e_mBM, e_mEqO, e_mNeO, e_fLenO, e_fBoolO, e_mtTO, e_mInO, e_mNotInO, e_mGetO, e_mtYes, putD, List.getElem?_cons_zero, List.getElem?_cons_succ, List.set_cons_zero, List.set_cons_succ, List.map_cons, List.map_nil, List.length_cons, List.length_nil, List.cons_append, List.nil_append, List.append_nil, List.replicate, Nat.reduceAdd, Nat.reduceSub, Nat.reduceLeDiff, Nat.zero_add, true_and, and_true, reduceIte, Bool.false_eq_true, Bool.true_eq_false, Bool.not_true, Bool.not_false, w_mLst, w_mMake, w_miLst, w_gmUnl, w_mComp, compL_nil, w_compL, w_mSetF, w_addRR, beq_self_eq_true]
    exact ⟨(sl_pos (by simp)), h⟩
  · have e : (("triangle" : Str) == "square") = false := by decide
    simp only [tri_ne, if_false] at h
    simp only [e_mNext, e_mSeq, e_mExpr, e_mRet, e_mRetN, e_mIfS, e_mBreak, e_mCont, e_mAsg, e_mPar, e_gmName, e_gmNil, e_gmCons, e_gmTup, e_gmSub, e_mVar, e_mC, e_mOp, e_mtB, e_mtT, e_mtNot, e_mtAnd, e_mtOr, e_mAnd, e_mOr, e_mAndT, e_mOrT, e_mIf, e_mNotB, e_mChain, e_maNil, e_maCons, e_mTup, e_mCall, e_mFld, e_mProp, e_mMeth, e_mUnO, e_mBinO, e_mCallO, e_mCMeth, e_mRaise, e_mTry, e_mFn, e_mNeg, e_mIsiB, e_mIsiO, e_mFor, e_miRange1, e_miRange2, e_miTup, e_body, e_addII, e_addIB, e_addSS, e_addTT, e_subII, e_mulII, e_fdivII, e_modII, e_powII, e_ltII, e_leII, e_gtII, e_geII, e_is, e_isNot, e_ixT, e_ixS, e_ixD, e_inD, e_fLenS, e_fLenT, e_fMax2, e_fMin2, e_fAbs, e_fIntI, e_fIntB, e_fBoolI, e_fBoolB, e_mExcF, e_tryNil, e_tryCons, e_mBM, e_mEqO, e_mNeO, e_fLenO, e_fBoolO, e_mtTO, e_mInO, e_mNotInO, e_mGetO, e_mtYes, putD, List.getElem?_cons_zero, List.getElem?_cons_succ, List.set_cons_zero, List.set_cons_succ, List.map_cons, List.map_nil, List.length_cons, List.length_nil, List.cons_append, List.nil_append, List.append_nil, List.replicate, Nat.reduceAdd, Nat.reduceSub, Nat.reduceLeDiff, Nat.zero_add, true_and, and_true, reduceIte, Bool.false_eq_true, Bool.true_eq_false, Bool.not_true, Bool.not_false, w_mLst, w_mMake, w_miLst, w_gmUnl, w_mComp, compL_nil, w_compL, w_mSetF, w_addRR, e]
    exact ⟨(sl_pos (by simp)), h⟩
theorem linear_ok (hz : Net z) (h0 : 0 ≤ t) (h1 : t < hc z) (h : q (pD (lin z t f p)) S) : u_linear [.str z, .int t, .bl f, pD p] S q x := by
  rw [e_u_linear, e_b_linear]
  simp only [e_mNext, e_mSeq, e_mExpr, e_mRet, e_mRetN, e_mIfS, e_mBreak, e_mCont, e_mAsg, e_mPar, e_gmName, e_gmNil, e_gmCons, e_gmTup, e_gmSub, e_mVar, e_mC, e_mOp, e_mtB, e_mtT, e_mtNot, e_mtAnd, e_mtOr, e_mAnd, e_mOr, e_mAndT, e_mOrT, e_mIf, e_mNotB, e_mChain, e_maNil, e_maCons, e_mTup, e_mCall, e_mFld, e_mProp, e_mMeth, e_mUnO, e_mBinO, e_mCallO, e_mCMeth, e_mRaise, e_mTry, e_mFn, e_mNeg, e_mIsiB, e_mIsiO, e_mFor, e_miRange1, e_miRange2, e_miTup, e_body, e_addII, e_addIB, e_addSS, e_addTT, e_subII, e_mulII, e_fdivII, e_modII, e_powII, e_ltII, e_leII, e_gtII, e_geII, e_is, e_isNot, e_ixT, e_ixS, e_ixD, e_inD, e_fLenS, e_fLenT, e_fMax2, e_fMin2, e_fAbs, e_fIntI, e_fIntB, e_fBoolI, e_fBoolB, e_mExcF, e_tryNil, e_tryCons, e_mBM, e_mEqO, e_mNeO, e_fLenO, e_fBoolO, e_mtTO, e_mInO, e_mNotInO, e_mGetO, e_mtYes, putD, List.getElem?_cons_zero, List.getElem?_cons_succ, List.set_cons_zero, List.set_cons_succ, List.map_cons, List.map_nil, List.length_cons, List.length_nil, List.cons_append, List.nil_append, List.append_nil, List.replicate, Nat.reduceAdd, Nat.reduceSub, Nat.reduceLeDiff, Nat.zero_add, true_and, and_true, reduceIte, Bool.false_eq_true, Bool.true_eq_false, Bool.not_true, Bool.not_false, w_mLst, w_mMake, w_miLst, w_gmUnl, w_mComp, compL_nil, w_compL, w_mSetF, w_addRR, truD]
  unfold lin at h
  cases f with
  | false =>
    simp only [e_mNext, e_mSeq, e_mExpr, e_mRet, e_mRetN, e_mIfS, e_mBreak, e_mCont, e_mAsg, e_mPar, e_gmName, e_gmNil, e_gmCons, e_gmTup, e_gmSub, e_mVar, e_mC, e_mOp, e_mtB, e_mtT, e_mtNot, e_mtAnd, e_mtOr, e_mAnd, e_mOr, e_mAndT, e_mOrT, e_mIf, e_mNotB, e_mChain, e_maNil, e_maCons, e_mTup, e_mCall, e_mFld, e_mProp, e_mMeth, e_mUnO, e_mBinO, e_mCallO, e_mCMeth, e_mRaise, e_mTry, e_mFn, e_mNeg, e_mIsiB, e_mIsiO, e_mFor, e_miRange1, e_miRange2, e_miTup, e_body, e_addII, e_addIB, e_addSS, e_addTT, e_subII, e_mulII, e_fdivII, e_modII, e_powII, e_ltII, e_leII, e_gtII, e_geII, e_is, e_isNot, e_ixT, e_ixS, e_ixD, e_inD, e_fLenS, e_fLenT, e_fMax2, e_fMin2, e_fAbs, e_fIntI, e_fIntB, e_fBoolI, e_fBoolB, e_mExcF, e_tryNil, e_tryCons, e_mBM, e_mEqO, e_mNeO, e_fLenO, e_fBoolO, e_mtTO, e_mInO, e_mNotInO, e_mGetO, e_mtYes, putD, List.getElem?_cons_zero, List.getElem?_cons_succ, List.set_cons_zero, List.set_cons_succ, List.map_cons, List.map_nil, List.length_cons, List.length_nil, List.cons_append, List.nil_append, List.append_nil, List.replicate, Nat.reduceAdd, Nat.reduceSub, Nat.reduceLeDiff, Nat.zero_add, true_and, and_true, reduceIte, Bool.false_eq_true, Bool.true_eq_false, Bool.not_true, Bool.not_false, w_mLst, w_mMake, w_miLst, w_gmUnl, w_mComp, compL_nil, w_compL, w_mSetF, w_addRR] at h ⊢
    exact turnedI_ok hz h0 h1 h
  | true =>
    simp only [e_mNext, e_mSeq, e_mExpr, e_mRet, e_mRetN, e_mIfS, e_mBreak, e_mCont, e_mAsg, e_mPar, e_gmName, e_gmNil, e_gmCons, e_gmTup, e_gmSub, e_mVar, e_mC, e_mOp, e_mtB, e_mtT, e_mtNot, e_mtAnd, e_mtOr, e_mAnd, e_mOr, e_mAndT, e_mOrT, e_mIf, e_mNotB, e_mChain, e_maNil, e_maCons, e_mTup, e_mCall, e_mFld, e_mProp, e_mMeth, e_mUnO, e_mBinO, e_mCallO, e_mCMeth, e_mRaise, e_mTry, e_mFn, e_mNeg, e_mIsiB, e_mIsiO, e_mFor, e_miRange1, e_miRange2, e_miTup, e_body, e_addII, e_addIB, e_addSS, e_addTT, e_subII, e_mulII, e_fdivII, e_modII, e_powII, e_ltII, e_leII, e_gtII, e_geII, e_is, e_isNot, e_ixT, e_ixS, e_ixD, e_inD, e_fLenS, e_fLenT, e_fMax2, e_fMin2, e_fAbs, e_fIntI, e_fIntB, e_fBoolI, e_fBoolB, e_mExcF, e_tryNil, e_tryCons, e_mBM, e_mEqO, e_mNeO, e_fLenO, e_fBoolO, e_mtTO, e_mInO, e_mNotInO, e_mGetO, e_mtYes, putD, List.getElem?_cons_zero, List.getElem?_cons_succ, List.set_cons_zero, List.set_cons_succ, List.map_cons, List.map_nil, List.length_cons, List.length_nil, List.cons_append, List.nil_append, List.append_nil, List.replicate, Nat.reduceAdd, Nat.reduceSub, Nat.reduceLeDiff, Nat.zero_add, true_and, and_true, reduceIte, Bool.false_eq_true, Bool.true_eq_false, Bool.not_true, Bool.not_false, w_mLst, w_mMake, w_miLst, w_gmUnl, w_mComp, compL_nil, w_compL, w_mSetF, w_addRR] at h ⊢
    refine flipped_ok hz ?_
    try simp only [e_mNext, e_mSeq, e_mExpr, e_mRet, e_mRetN, e_mIfS, e_mBreak, e_mCont, e_mAsg, e_mPar, e_gmName, e_gmNil, e_gmCons, e_gmTup, e_gmSub, e_mVar, e_mC, e_mOp, e_mtB, e_mtT, e_mtNot, e_mtAnd, e_mtOr, e_mAnd, e_mOr, e_mAndT, e_mOrT, e_mIf, e_mNotB, e_mChain, e_maNil, e_maCons, e_mTup, e_mCall, e_mFld, e_mProp, e_mMeth, e_mUnO, e_mBinO, e_mCallO, e_mCMeth, e_mRaise, e_mTry, e_mFn, e_mNeg, e_mIsiB, e_mIsiO, e_mFor, e_miRange1, e_miRange2, e_miTup, e_body, e_addII, e_addIB, e_addSS, e_addTT, e_subII, e_mulII, e_fdivII, e_modII, e_powII, e_ltII, e_leII, e_gtII, e_geII, e_is, e_isNot, e_ixT, e_ixS, e_ixD, e_inD, e_fLenS, e_fLenT, e_fMax2, e_fMin2, e_fAbs, e_fIntI, e_fIntB, e_fBoolI, e_fBoolB, e_mExcF, e_tryNil, e_tryCons, e_mBM, e_mEqO, e_mNeO, e_fLenO, e_fBoolO, e_mtTO, e_mInO, e_mNotInO, e_mGetO, e_mtYes, putD, List.getElem?_cons_zero, List.getElem?_cons_succ, List.set_cons_zero, List.set_cons_succ, List.map_cons, List.map_nil, List.length_cons, List.length_nil, List.cons_append, List.nil_append, List.append_nil, List.replicate, Nat.reduceAdd, Nat.reduceSub, Nat.reduceLeDiff, Nat.zero_add, true_and, and_true, reduceIte, Bool.false_eq_true, Bool.true_eq_false, Bool.not_true, Bool.not_false, w_mLst, w_mMake, w_miLst, w_gmUnl, w_mComp, compL_nil, w_compL, w_mSetF, w_addRR]
    exact turnedI_ok hz h0 h1 h
theorem moved_ok (h1 : S[j]? = some (syo z a)) (hz : Net z) (ha : a.ok z) (h : q (pD (a.at_ z p)) S) : u_Symmetry_moved [.ref j, pD p] S q x := by
  unfold syo at h1
  rw [e_u_Symmetry_moved, e_b_Symmetry_moved]
  simp only [e_mNext, e_mSeq, e_mExpr, e_mRet, e_mRetN, e_mIfS, e_mBreak, e_mCont, e_mAsg, e_mPar, e_gmName, e_gmNil, e_gmCons, e_gmTup, e_gmSub, e_mVar, e_mC, e_mOp, e_mtB, e_mtT, e_mtNot, e_mtAnd, e_mtOr, e_mAnd, e_mOr, e_mAndT, e_mOrT, e_mIf, e_mNotB, e_mChain, e_maNil, e_maCons, e_mTup, e_mLst, e_mCall, e_mFld, e_mProp, e_mMeth, e_mMake, e_mSetF, e_mUnO, e_mBinO, e_mCallO, e_mCMeth, e_mRaise, e_mTry, e_mFn, e_mNeg, e_mIsiB, e_mIsiO, e_mFor, e_miRange1, e_miRange2, e_miTup, e_miLst, e_body, e_addII, e_addIB, e_addSS, e_addTT, e_addRR, e_subII, e_mulII, e_fdivII, e_modII, e_powII, e_ltII, e_leII, e_gtII, e_geII, e_is, e_isNot, e_ixT, e_ixR, e_ixS, e_ixD, e_inD, e_isIns, e_fLenS, e_fLenT, e_fLenR, e_fMax2, e_fMin2, e_fAbs, e_fIntI, e_fIntB, e_fBoolI, e_fBoolB, e_mExcF, e_tryNil, e_tryCons, e_mBM, e_append, e_extend, e_gmUnl, e_mEqO, e_mNeO, e_fLenO, e_fBoolO, e_mtTO, e_mInO, e_mNotInO, e_mGetO, e_mComp, e_mtYes, putD, List.getElem?_cons_zero, List.getElem?_cons_succ, List.set_cons_zero, List.set_cons_succ, List.map_cons, List.map_nil, List.length_cons, List.length_nil, List.cons_append, List.nil_append, List.append_nil, List.replicate, Nat.reduceAdd, Nat.reduceSub, Nat.reduceLeDiff, Nat.zero_add, true_and, and_true, reduceIte, Bool.false_eq_true, Bool.true_eq_false, Bool.not_true, Bool.not_false, h1, sf_net, sf_place, sf_turn, sf_mir]
  refine linear_ok hz ha.1 ha.2 ?_
  exact added_ok h
theorem insS_w {P : Prop} (w : W n B L S) (ma : (j, syo z a) ∈ L) (h : P) : isIns "Symmetry" (.ref j) S (fun _ => P) := ins_ok (fs := syF z a) w ma h
theorem smul_core (w : W n B L S) (ma : (j, syo z a) ∈ L) (mb : (j2, syo z b) ∈ L) (hz : Net z) (ha : a.ok z) (hb : b.ok z) (h : ∀ i S', W n B ((i, syo z (a.mul z b)) :: L) S' → q (.ref i) S') : u_Symmetry_mul [.ref j, .ref j2] S q x := by
  have h1 := w.get ma
  have h2 := w.get mb
  have e := tyD_sy h2
  unfold syo at h1 h2
  rw [e_u_Symmetry_mul, e_b_Symmetry_mul, e_b_Symmetry_mul_4, e_b_Symmetry_mul_3, e_b_Symmetry_mul_2]
  simp only [e_mNext, e_mSeq, e_mExpr, e_mRet, e_mRetN, e_mIfS, e_mBreak, e_mCont, e_mAsg, e_mPar, e_gmName, e_gmNil, e_gmCons, e_gmTup, e_gmSub, e_mVar, e_mC, e_mOp, e_mtB, e_mtT, e_mtNot, e_mtAnd, e_mtOr, e_mAnd, e_mOr, e_mAndT, e_mOrT, e_mIf, e_mNotB, e_mChain, e_maNil, e_maCons, e_mTup, e_mLst, e_mCall, e_mFld, e_mProp, e_mMeth, e_mMake, e_mSetF, e_mUnO, e_mBinO, e_mCallO, e_mCMeth, e_mRaise, e_mTry, e_mFn, e_mNeg, e_mIsiB, e_mIsiO, e_mFor, e_miRange1, e_miRange2, e_miTup, e_miLst, e_body, e_addII, e_addIB, e_addSS, e_addTT, e_addRR, e_subII, e_mulII, e_fdivII, e_modII, e_powII, e_ltII, e_leII, e_gtII, e_geII, e_is, e_isNot, e_ixT, e_ixR, e_ixS, e_ixD, e_inD, e_isIns, e_fLenS, e_fLenT, e_fLenR, e_fMax2, e_fMin2, e_fAbs, e_fIntI, e_fIntB, e_fBoolI, e_fBoolB, e_mExcF, e_tryNil, e_tryCons, e_mBM, e_append, e_extend, e_gmUnl, e_mEqO, e_mNeO, e_fLenO, e_fBoolO, e_mtTO, e_mInO, e_mNotInO, e_mGetO, e_mComp, e_mtYes, putD, List.getElem?_cons_zero, List.getElem?_cons_succ, List.set_cons_zero, List.set_cons_succ, List.map_cons, List.map_nil, List.length_cons, List.length_nil, List.cons_append, List.nil_append, List.append_nil, List.replicate, Nat.reduceAdd, Nat.reduceSub, Nat.reduceLeDiff, Nat.zero_add, true_and, and_true, reduceIte, Bool.false_eq_true, Bool.true_eq_false, Bool.not_true, Bool.not_false, e, beq_self_eq_true]
  refine ⟨cls_sy, ?_⟩
  simp only [e_mNext, e_mSeq, e_mExpr, e_mRet, e_mRetN, e_mIfS, e_mBreak, e_mCont, e_mAsg, e_mPar, e_gmName, e_gmNil, e_gmCons, e_gmTup, e_gmSub, e_mVar, e_mC, e_mOp, e_mtB, e_mtT, e_mtNot, e_mtAnd, e_mtOr, e_mAnd, e_mOr, e_mAndT, e_mOrT, e_mIf, e_mNotB, e_mChain, e_maNil, e_maCons, e_mTup, e_mLst, e_mCall, e_mFld, e_mProp, e_mMeth, e_mMake, e_mSetF, e_mUnO, e_mBinO, e_mCallO, e_mCMeth, e_mRaise, e_mTry, e_mFn, e_mNeg, e_mIsiB, e_mIsiO, e_mFor, e_miRange1, e_miRange2, e_miTup, e_miLst, e_body, e_addII, e_addIB, e_addSS, e_addTT, e_addRR, e_subII, e_mulII, e_fdivII, e_modII, e_powII, e_ltII, e_leII, e_gtII, e_geII, e_is, e_isNot, e_ixT, e_ixR, e_ixS, e_ixD, e_inD, e_isIns, e_fLenS, e_fLenT, e_fLenR, e_fMax2, e_fMin2, e_fAbs, e_fIntI, e_fIntB, e_fBoolI, e_fBoolB, e_mExcF, e_tryNil, e_tryCons, e_mBM, e_append, e_extend, e_gmUnl, e_mEqO, e_mNeO, e_fLenO, e_fBoolO, e_mtTO, e_mInO, e_mNotInO, e_mGetO, e_mComp, e_mtYes, putD, List.getElem?_cons_zero, List.getElem?_cons_succ, List.set_cons_zero, List.set_cons_succ, List.map_cons, List.map_nil, List.length_cons, List.length_nil, List.cons_append, List.nil_append, List.append_nil, List.replicate, Nat.reduceAdd, Nat.reduceSub, Nat.reduceLeDiff, Nat.zero_add, true_and, and_true, reduceIte, Bool.false_eq_true, Bool.true_eq_false, Bool.not_true, Bool.not_false, h1, h2, sf_net, sf_place, sf_turn, sf_mir]
  refine mNe_net hz hz ?_
  simp only [decide_true, e_mNext, e_mSeq, e_mExpr, e_mRet, e_mRetN, e_mIfS, e_mBreak, e_mCont, e_mAsg, e_mPar, e_gmName, e_gmNil, e_gmCons, e_gmTup, e_gmSub, e_mVar, e_mC, e_mOp, e_mtB, e_mtT, e_mtNot, e_mtAnd, e_mtOr, e_mAnd, e_mOr, e_mAndT, e_mOrT, e_mIf, e_mNotB, e_mChain, e_maNil, e_maCons, e_mTup, e_mLst, e_mCall, e_mFld, e_mProp, e_mMeth, e_mMake, e_mSetF, e_mUnO, e_mBinO, e_mCallO, e_mCMeth, e_mRaise, e_mTry, e_mFn, e_mNeg, e_mIsiB, e_mIsiO, e_mFor, e_miRange1, e_miRange2, e_miTup, e_miLst, e_body, e_addII, e_addIB, e_addSS, e_addTT, e_addRR, e_subII, e_mulII, e_fdivII, e_modII, e_powII, e_ltII, e_leII, e_gtII, e_geII, e_is, e_isNot, e_ixT, e_ixR, e_ixS, e_ixD, e_inD, e_isIns, e_fLenS, e_fLenT, e_fLenR, e_fMax2, e_fMin2, e_fAbs, e_fIntI, e_fIntB, e_fBoolI, e_fBoolB, e_mExcF, e_tryNil, e_tryCons, e_mBM, e_append, e_extend, e_gmUnl, e_mEqO, e_mNeO, e_fLenO, e_fBoolO, e_mtTO, e_mInO, e_mNotInO, e_mGetO, e_mComp, e_mtYes, putD, List.getElem?_cons_zero, List.getElem?_cons_succ, List.set_cons_zero, List.set_cons_succ, List.map_cons, List.map_nil, List.length_cons, List.length_nil, List.cons_append, List.nil_append, List.append_nil, List.replicate, Nat.reduceAdd, Nat.reduceSub, Nat.reduceLeDiff, Nat.zero_add, true_and, and_true, reduceIte, Bool.false_eq_true, Bool.true_eq_false, Bool.not_true, Bool.not_false, h1, h2, sf_net, sf_place, sf_turn, sf_mir, sf_moved, truD, mNe_bl]
  unfold Sy.mul at h
  cases hf : b.f <;>
    (rw [hf] at h
     simp only [e_mNext, e_mSeq, e_mExpr, e_mRet, e_mRetN, e_mIfS, e_mBreak, e_mCont, e_mAsg, e_mPar, e_gmName, e_gmNil, e_gmCons, e_gmTup, e_gmSub, e_mVar, e_mC, e_mOp, e_mtB, e_mtT, e_mtNot, e_mtAnd, e_mtOr, e_mAnd, e_mOr, e_mAndT, e_mOrT, e_mIf, e_mNotB, e_mChain, e_maNil, e_maCons, e_mTup, e_mLst, e_mCall, e_mFld, e_mProp, e_mMeth, e_mMake, e_mSetF, e_mUnO, e_mBinO, e_mCallO, e_mCMeth, e_mRaise, e_mTry, e_mFn, e_mNeg, e_mIsiB, e_mIsiO, e_mFor, e_miRange1, e_miRange2, e_miTup, e_miLst, e_body, e_addII, e_addIB, e_addSS, e_addTT, e_addRR, e_subII, e_mulII, e_fdivII, e_modII, e_powII, e_ltII, e_leII, e_gtII, e_geII, e_is, e_isNot, e_ixT, e_ixR, e_ixS, e_ixD, e_inD, e_isIns, e_fLenS, e_fLenT, e_fLenR, e_fMax2, e_fMin2, e_fAbs, e_fIntI, e_fIntB, e_fBoolI, e_fBoolB, e_mExcF, e_tryNil, e_tryCons, e_mBM, e_append, e_extend, e_gmUnl, e_mEqO, e_mNeO, e_fLenO, e_fBoolO, e_mtTO, e_mInO, e_mNotInO, e_mGetO, e_mComp, e_mtYes, putD, List.getElem?_cons_zero, List.getElem?_cons_succ, List.set_cons_zero, List.set_cons_succ, List.map_cons, List.map_nil, List.length_cons, List.length_nil, List.cons_append, List.nil_append, List.append_nil, List.replicate, Nat.reduceAdd, Nat.reduceSub, Nat.reduceLeDiff, Nat.zero_add, true_and, and_true, reduceIte, Bool.false_eq_true, Bool.true_eq_false, Bool.not_true, Bool.not_false, h1, h2, sf_net, sf_place, sf_turn, sf_mir, sf_moved, truD, mNe_bl, hf] at h ⊢
     refine moved_ok (w.get mb) hz hb ?_
     simp only [e_mNext, e_mSeq, e_mExpr, e_mRet, e_mRetN, e_mIfS, e_mBreak, e_mCont, e_mAsg, e_mPar, e_gmName, e_gmNil, e_gmCons, e_gmTup, e_gmSub, e_mVar, e_mC, e_mOp, e_mtB, e_mtT, e_mtNot, e_mtAnd, e_mtOr, e_mAnd, e_mOr, e_mAndT, e_mOrT, e_mIf, e_mNotB, e_mChain, e_maNil, e_maCons, e_mTup, e_mLst, e_mCall, e_mFld, e_mProp, e_mMeth, e_mMake, e_mSetF, e_mUnO, e_mBinO, e_mCallO, e_mCMeth, e_mRaise, e_mTry, e_mFn, e_mNeg, e_mIsiB, e_mIsiO, e_mFor, e_miRange1, e_miRange2, e_miTup, e_miLst, e_body, e_addII, e_addIB, e_addSS, e_addTT, e_addRR, e_subII, e_mulII, e_fdivII, e_modII, e_powII, e_ltII, e_leII, e_gtII, e_geII, e_is, e_isNot, e_ixT, e_ixR, e_ixS, e_ixD, e_inD, e_isIns, e_fLenS, e_fLenT, e_fLenR, e_fMax2, e_fMin2, e_fAbs, e_fIntI, e_fIntB, e_fBoolI, e_fBoolB, e_mExcF, e_tryNil, e_tryCons, e_mBM, e_append, e_extend, e_gmUnl, e_mEqO, e_mNeO, e_fLenO, e_fBoolO, e_mtTO, e_mInO, e_mNotInO, e_mGetO, e_mComp, e_mtYes, putD, List.getElem?_cons_zero, List.getElem?_cons_succ, List.set_cons_zero, List.set_cons_succ, List.map_cons, List.map_nil, List.length_cons, List.length_nil, List.cons_append, List.nil_append, List.append_nil, List.replicate, Nat.reduceAdd, Nat.reduceSub, Nat.reduceLeDiff, Nat.zero_add, true_and, and_true, reduceIte, Bool.false_eq_true, Bool.true_eq_false, Bool.not_true, Bool.not_false, h1, sf_net]
     refine heading_count_ok hz ?_
     simp only [e_mNext, e_mSeq, e_mExpr, e_mRet, e_mRetN, e_mIfS, e_mBreak, e_mCont, e_mAsg, e_mPar, e_gmName, e_gmNil, e_gmCons, e_gmTup, e_gmSub, e_mVar, e_mC, e_mOp, e_mtB, e_mtT, e_mtNot, e_mtAnd, e_mtOr, e_mAnd, e_mOr, e_mAndT, e_mOrT, e_mIf, e_mNotB, e_mChain, e_maNil, e_maCons, e_mTup, e_mLst, e_mCall, e_mFld, e_mProp, e_mMeth, e_mMake, e_mSetF, e_mUnO, e_mBinO, e_mCallO, e_mCMeth, e_mRaise, e_mTry, e_mFn, e_mNeg, e_mIsiB, e_mIsiO, e_mFor, e_miRange1, e_miRange2, e_miTup, e_miLst, e_body, e_addII, e_addIB, e_addSS, e_addTT, e_addRR, e_subII, e_mulII, e_fdivII, e_modII, e_powII, e_ltII, e_leII, e_gtII, e_geII, e_is, e_isNot, e_ixT, e_ixR, e_ixS, e_ixD, e_inD, e_isIns, e_fLenS, e_fLenT, e_fLenR, e_fMax2, e_fMin2, e_fAbs, e_fIntI, e_fIntB, e_fBoolI, e_fBoolB, e_mExcF, e_tryNil, e_tryCons, e_mBM, e_append, e_extend, e_gmUnl, e_mEqO, e_mNeO, e_fLenO, e_fBoolO, e_mtTO, e_mInO, e_mNotInO, e_mGetO, e_mComp, e_mtYes, putD, List.getElem?_cons_zero, List.getElem?_cons_succ, List.set_cons_zero, List.set_cons_succ, List.map_cons, List.map_nil, List.length_cons, List.length_nil, List.cons_append, List.nil_append, List.append_nil, List.replicate, Nat.reduceAdd, Nat.reduceSub, Nat.reduceLeDiff, Nat.zero_add, true_and, and_true, reduceIte, Bool.false_eq_true, Bool.true_eq_false, Bool.not_true, Bool.not_false]
     refine ⟨hc_pos z, ?_⟩
     exact syw w rfl rfl hz (Int.emod_nonneg _ (Int.ne_of_gt (hc_pos z))) (Int.emod_lt_of_pos _ (hc_pos z)) fun S' w => ⟨rfl, h _ S' w⟩)
theorem smul_w (w : W n B L S) (ma : (j, syo z a) ∈ L) (mb : (j2, syo z b) ∈ L) (hz : Net z) (ha : a.ok z) (hb : b.ok z) (h : ∀ i S', W n B ((i, syo z (a.mul z b)) :: L) S' → q (.ref i) S') :
    isIns "Symmetry" (.ref j) S (fun _ => okR "Symmetry" (.ref j2) S ∧ u_Symmetry_mul [.ref j, .ref j2] S q x) :=
  insS_w w ma ⟨by simp only [okR, tyD_sy (w.get mb)], smul_core w ma mb hz ha hb h⟩
theorem sinv_core (w : W n B L S) (ma : (j, syo z a) ∈ L) (hz : Net z) (ha : a.ok z) (h : ∀ i S', W n B ((i, syo z (a.inv z)) :: L) S' → q (.ref i) S') : u_Symmetry_invert [.ref j] S q x := by
  have h1 := w.get ma
  unfold syo at h1
  have hi := Sy.ok_inv ha
  rw [e_u_Symmetry_invert, e_b_Symmetry_invert, e_b_Symmetry_invert_1]
  simp only [e_mNext, e_mSeq, e_mExpr, e_mRet, e_mRetN, e_mIfS, e_mBreak, e_mCont, e_mAsg, e_mPar, e_gmName, e_gmNil, e_gmCons, e_gmTup, e_gmSub, e_mVar, e_mC, e_mOp, e_mtB, e_mtT, e_mtNot, e_mtAnd, e_mtOr, e_mAnd, e_mOr, e_mAndT, e_mOrT, e_mIf, e_mNotB, e_mChain, e_maNil, e_maCons, e_mTup, e_mLst, e_mCall, e_mFld, e_mProp, e_mMeth, e_mMake, e_mSetF, e_mUnO, e_mBinO, e_mCallO, e_mCMeth, e_mRaise, e_mTry, e_mFn, e_mNeg, e_mIsiB, e_mIsiO, e_mFor, e_miRange1, e_miRange2, e_miTup, e_miLst, e_body, e_addII, e_addIB, e_addSS, e_addTT, e_addRR, e_subII, e_mulII, e_fdivII, e_modII, e_powII, e_ltII, e_leII, e_gtII, e_geII, e_is, e_isNot, e_ixT, e_ixR, e_ixS, e_ixD, e_inD, e_isIns, e_fLenS, e_fLenT, e_fLenR, e_fMax2, e_fMin2, e_fAbs, e_fIntI, e_fIntB, e_fBoolI, e_fBoolB, e_mExcF, e_tryNil, e_tryCons, e_mBM, e_append, e_extend, e_gmUnl, e_mEqO, e_mNeO, e_fLenO, e_fBoolO, e_mtTO, e_mInO, e_mNotInO, e_mGetO, e_mComp, e_mtYes, putD, List.getElem?_cons_zero, List.getElem?_cons_succ, List.set_cons_zero, List.set_cons_succ, List.map_cons, List.map_nil, List.length_cons, List.length_nil, List.cons_append, List.nil_append, List.append_nil, List.replicate, Nat.reduceAdd, Nat.reduceSub, Nat.reduceLeDiff, Nat.zero_add, true_and, and_true, reduceIte, Bool.false_eq_true, Bool.true_eq_false, Bool.not_true, Bool.not_false, h1, sf_net, sf_place, sf_turn, sf_mir, truD]
  have e1 : D.tup [.int (a.p.1 * -1), .int (a.p.2 * -1)] = pD (-a.p.1, -a.p.2) := by rw [Int.mul_neg_one, Int.mul_neg_one]
  have tail : ∀ (t : Int), t = (a.inv z).t → ∀ q', q' = q → 
      u_scaled [pD a.p, .int (-1)] S (fun d S1 => u_linear [.str z, .int t, .bl a.f, d] S1 (fun p S3 => 
        isIns "Symmetry" (.ref j) S3 fun fs => match fs.lookup ("own_net" : Str) with
          | some d => isIns "Symmetry" (.ref j) S3 fun fs => (match fs.lookup ("own_mirrored" : Str) with
            | some d4 => u_Symmetry_init [.ref S3.length, d, p, .int t, d4] (S3 ++ [.ins "Symmetry" []]) (fun d S2 => d = .non ∧ q' (.ref S3.length) S2) x
            | none => False)
          | none => False) x) x := fun t et q' eq => by
    subst eq
    refine scaled_ok (cmul_r (by decide) (by decide)) (cmul_r (by decide) (by decide)) ?_
    rw [e1]
    refine linear_ok hz (by rw [et]; exact hi.1) (by rw [et]; exact hi.2) ?_
    simp only [e_mNext, e_mSeq, e_mExpr, e_mRet, e_mRetN, e_mIfS, e_mBreak, e_mCont, e_mAsg, e_mPar, e_gmName, e_gmNil, e_gmCons, e_gmTup, e_gmSub, e_mVar, e_mC, e_mOp, e_mtB, e_mtT, e_mtNot, e_mtAnd, e_mtOr, e_mAnd, e_mOr, e_mAndT, e_mOrT, e_mIf, e_mNotB, e_mChain, e_maNil, e_maCons, e_mTup, e_mLst, e_mCall, e_mFld, e_mProp, e_mMeth, e_mMake, e_mSetF, e_mUnO, e_mBinO, e_mCallO, e_mCMeth, e_mRaise, e_mTry, e_mFn, e_mNeg, e_mIsiB, e_mIsiO, e_mFor, e_miRange1, e_miRange2, e_miTup, e_miLst, e_body, e_addII, e_addIB, e_addSS, e_addTT, e_addRR, e_subII, e_mulII, e_fdivII, e_modII, e_powII, e_ltII, e_leII, e_gtII, e_geII, e_is, e_isNot, e_ixT, e_ixR, e_ixS, e_ixD, e_inD, e_isIns, e_fLenS, e_fLenT, e_fLenR, e_fMax2, e_fMin2, e_fAbs, e_fIntI, e_fIntB, e_fBoolI, e_fBoolB, e_mExcF, e_tryNil, e_tryCons, e_mBM, e_append, e_extend, e_gmUnl, e_mEqO, e_mNeO, e_fLenO, e_fBoolO, e_mtTO, e_mInO, e_mNotInO, e_mGetO, e_mComp, e_mtYes, putD, List.getElem?_cons_zero, List.getElem?_cons_succ, List.set_cons_zero, List.set_cons_succ, List.map_cons, List.map_nil, List.length_cons, List.length_nil, List.cons_append, List.nil_append, List.append_nil, List.replicate, Nat.reduceAdd, Nat.reduceSub, Nat.reduceLeDiff, Nat.zero_add, true_and, and_true, reduceIte, Bool.false_eq_true, Bool.true_eq_false, Bool.not_true, Bool.not_false, h1, sf_net, sf_mir]
    refine syw w rfl rfl hz (by rw [et]; exact hi.1) (by rw [et]; exact hi.2) fun S' w => ⟨rfl, ?_⟩
    refine h _ S' ?_
    rw [et] at w
    exact w
  cases hf : a.f with
  | true =>
    have et : a.t = (a.inv z).t := by unfold Sy.inv; simp only [hf, if_true]
    have g := tail _ et q rfl
    simp only [e_mNext, e_mSeq, e_mExpr, e_mRet, e_mRetN, e_mIfS, e_mBreak, e_mCont, e_mAsg, e_mPar, e_gmName, e_gmNil, e_gmCons, e_gmTup, e_gmSub, e_mVar, e_mC, e_mOp, e_mtB, e_mtT, e_mtNot, e_mtAnd, e_mtOr, e_mAnd, e_mOr, e_mAndT, e_mOrT, e_mIf, e_mNotB, e_mChain, e_maNil, e_maCons, e_mTup, e_mLst, e_mCall, e_mFld, e_mProp, e_mMeth, e_mMake, e_mSetF, e_mUnO, e_mBinO, e_mCallO, e_mCMeth, e_mRaise, e_mTry, e_mFn, e_mNeg, e_mIsiB, e_mIsiO, e_mFor, e_miRange1, e_miRange2, e_miTup, e_miLst, e_body, e_addII, e_addIB, e_addSS, e_addTT, e_addRR, e_subII, e_mulII, e_fdivII, e_modII, e_powII, e_ltII, e_leII, e_gtII, e_geII, e_is, e_isNot, e_ixT, e_ixR, e_ixS, e_ixD, e_inD, e_isIns, e_fLenS, e_fLenT, e_fLenR, e_fMax2, e_fMin2, e_fAbs, e_fIntI, e_fIntB, e_fBoolI, e_fBoolB, e_mExcF, e_tryNil, e_tryCons, e_mBM, e_append, e_extend, e_gmUnl, e_mEqO, e_mNeO, e_fLenO, e_fBoolO, e_mtTO, e_mInO, e_mNotInO, e_mGetO, e_mComp, e_mtYes, putD, List.getElem?_cons_zero, List.getElem?_cons_succ, List.set_cons_zero, List.set_cons_succ, List.map_cons, List.map_nil, List.length_cons, List.length_nil, List.cons_append, List.nil_append, List.append_nil, List.replicate, Nat.reduceAdd, Nat.reduceSub, Nat.reduceLeDiff, Nat.zero_add, true_and, and_true, reduceIte, Bool.false_eq_true, Bool.true_eq_false, Bool.not_true, Bool.not_false, h1, sf_net, sf_place, sf_turn, sf_mir, hf] at g ⊢
    exact g
  | false =>
    have et : (-a.t) % hc z = (a.inv z).t := by unfold Sy.inv; simp only [hf, Bool.false_eq_true, if_false]
    have g := tail _ et q rfl
    simp only [e_mNext, e_mSeq, e_mExpr, e_mRet, e_mRetN, e_mIfS, e_mBreak, e_mCont, e_mAsg, e_mPar, e_gmName, e_gmNil, e_gmCons, e_gmTup, e_gmSub, e_mVar, e_mC, e_mOp, e_mtB, e_mtT, e_mtNot, e_mtAnd, e_mtOr, e_mAnd, e_mOr, e_mAndT, e_mOrT, e_mIf, e_mNotB, e_mChain, e_maNil, e_maCons, e_mTup, e_mLst, e_mCall, e_mFld, e_mProp, e_mMeth, e_mMake, e_mSetF, e_mUnO, e_mBinO, e_mCallO, e_mCMeth, e_mRaise, e_mTry, e_mFn, e_mNeg, e_mIsiB, e_mIsiO, e_mFor, e_miRange1, e_miRange2, e_miTup, e_miLst, e_body, e_addII, e_addIB, e_addSS, e_addTT, e_addRR, e_subII, e_mulII, e_fdivII, e_modII, e_powII, e_ltII, e_leII, e_gtII, e_geII, e_is, e_isNot, e_ixT, e_ixR, e_ixS, e_ixD, e_inD, e_isIns, e_fLenS, e_fLenT, e_fLenR, e_fMax2, e_fMin2, e_fAbs, e_fIntI, e_fIntB, e_fBoolI, e_fBoolB, e_mExcF, e_tryNil, e_tryCons, e_mBM, e_append, e_extend, e_gmUnl, e_mEqO, e_mNeO, e_fLenO, e_fBoolO, e_mtTO, e_mInO, e_mNotInO, e_mGetO, e_mComp, e_mtYes, putD, List.getElem?_cons_zero, List.getElem?_cons_succ, List.set_cons_zero, List.set_cons_succ, List.map_cons, List.map_nil, List.length_cons, List.length_nil, List.cons_append, List.nil_append, List.append_nil, List.replicate, Nat.reduceAdd, Nat.reduceSub, Nat.reduceLeDiff, Nat.zero_add, true_and, and_true, reduceIte, Bool.false_eq_true, Bool.true_eq_false, Bool.not_true, Bool.not_false, h1, sf_net, sf_place, sf_turn, sf_mir, hf] at g ⊢
    refine heading_count_ok hz ?_
    simp only [e_mNext, e_mSeq, e_mExpr, e_mRet, e_mRetN, e_mIfS, e_mBreak, e_mCont, e_mAsg, e_mPar, e_gmName, e_gmNil, e_gmCons, e_gmTup, e_gmSub, e_mVar, e_mC, e_mOp, e_mtB, e_mtT, e_mtNot, e_mtAnd, e_mtOr, e_mAnd, e_mOr, e_mAndT, e_mOrT, e_mIf, e_mNotB, e_mChain, e_maNil, e_maCons, e_mTup, e_mLst, e_mCall, e_mFld, e_mProp, e_mMeth, e_mMake, e_mSetF, e_mUnO, e_mBinO, e_mCallO, e_mCMeth, e_mRaise, e_mTry, e_mFn, e_mNeg, e_mIsiB, e_mIsiO, e_mFor, e_miRange1, e_miRange2, e_miTup, e_miLst, e_body, e_addII, e_addIB, e_addSS, e_addTT, e_addRR, e_subII, e_mulII, e_fdivII, e_modII, e_powII, e_ltII, e_leII, e_gtII, e_geII, e_is, e_isNot, e_ixT, e_ixR, e_ixS, e_ixD, e_inD, e_isIns, e_fLenS, e_fLenT, e_fLenR, e_fMax2, e_fMin2, e_fAbs, e_fIntI, e_fIntB, e_fBoolI, e_fBoolB, e_mExcF, e_tryNil, e_tryCons, e_mBM, e_append, e_extend, e_gmUnl, e_mEqO, e_mNeO, e_fLenO, e_fBoolO, e_mtTO, e_mInO, e_mNotInO, e_mGetO, e_mComp, e_mtYes, putD, List.getElem?_cons_zero, List.getElem?_cons_succ, List.set_cons_zero, List.set_cons_succ, List.map_cons, List.map_nil, List.length_cons, List.length_nil, List.cons_append, List.nil_append, List.append_nil, List.replicate, Nat.reduceAdd, Nat.reduceSub, Nat.reduceLeDiff, Nat.zero_add, true_and, and_true, reduceIte, Bool.false_eq_true, Bool.true_eq_false, Bool.not_true, Bool.not_false, h1, sf_net, sf_place, sf_turn, sf_mir, hf]
    exact ⟨hc_pos z, g⟩
theorem sinv_w (w : W n B L S) (ma : (j, syo z a) ∈ L) (hz : Net z) (ha : a.ok z) (h : ∀ i S', W n B ((i, syo z (a.inv z)) :: L) S' → q (.ref i) S') :
    isIns "Symmetry" (.ref j) S (fun _ => u_Symmetry_invert [.ref j] S q x) := insS_w w ma (sinv_core w ma hz ha h)
theorem scall_core (w : W n B L S) (ma : (j, syo z a) ∈ L) (hz : Net z) (ha : a.ok z) (h : q (pD (a.at_ z p)) S) : u_Symmetry_call [.ref j, pD p] S q x := by
  have h1 := w.get ma
  unfold syo at h1
  rw [e_u_Symmetry_call, e_b_Symmetry_call]
  simp only [e_mNext, e_mSeq, e_mExpr, e_mRet, e_mRetN, e_mIfS, e_mBreak, e_mCont, e_mAsg, e_mPar, e_gmName, e_gmNil, e_gmCons, e_gmTup, e_gmSub, e_mVar, e_mC, e_mOp, e_mtB, e_mtT, e_mtNot, e_mtAnd, e_mtOr, e_mAnd, e_mOr, e_mAndT, e_mOrT, e_mIf, e_mNotB, e_mChain, e_maNil, e_maCons, e_mTup, e_mLst, e_mCall, e_mFld, e_mProp, e_mMeth, e_mMake, e_mSetF, e_mUnO, e_mBinO, e_mCallO, e_mCMeth, e_mRaise, e_mTry, e_mFn, e_mNeg, e_mIsiB, e_mIsiO, e_mFor, e_miRange1, e_miRange2, e_miTup, e_miLst, e_body, e_addII, e_addIB, e_addSS, e_addTT, e_addRR, e_subII, e_mulII, e_fdivII, e_modII, e_powII, e_ltII, e_leII, e_gtII, e_geII, e_is, e_isNot, e_ixT, e_ixR, e_ixS, e_ixD, e_inD, e_isIns, e_fLenS, e_fLenT, e_fLenR, e_fMax2, e_fMin2, e_fAbs, e_fIntI, e_fIntB, e_fBoolI, e_fBoolB, e_mExcF, e_tryNil, e_tryCons, e_mBM, e_append, e_extend, e_gmUnl, e_mEqO, e_mNeO, e_fLenO, e_fBoolO, e_mtTO, e_mInO, e_mNotInO, e_mGetO, e_mComp, e_mtYes, putD, List.getElem?_cons_zero, List.getElem?_cons_succ, List.set_cons_zero, List.set_cons_succ, List.map_cons, List.map_nil, List.length_cons, List.length_nil, List.cons_append, List.nil_append, List.append_nil, List.replicate, Nat.reduceAdd, Nat.reduceSub, Nat.reduceLeDiff, Nat.zero_add, true_and, and_true, reduceIte, Bool.false_eq_true, Bool.true_eq_false, Bool.not_true, Bool.not_false]
  refine check_place_ok True.intro (fun a b e => by cases e; exact ⟨True.intro, True.intro⟩) (fun _ => ?_) (fun e => by cases e)
  simp only [e_mNext, e_mSeq, e_mExpr, e_mRet, e_mRetN, e_mIfS, e_mBreak, e_mCont, e_mAsg, e_mPar, e_gmName, e_gmNil, e_gmCons, e_gmTup, e_gmSub, e_mVar, e_mC, e_mOp, e_mtB, e_mtT, e_mtNot, e_mtAnd, e_mtOr, e_mAnd, e_mOr, e_mAndT, e_mOrT, e_mIf, e_mNotB, e_mChain, e_maNil, e_maCons, e_mTup, e_mLst, e_mCall, e_mFld, e_mProp, e_mMeth, e_mMake, e_mSetF, e_mUnO, e_mBinO, e_mCallO, e_mCMeth, e_mRaise, e_mTry, e_mFn, e_mNeg, e_mIsiB, e_mIsiO, e_mFor, e_miRange1, e_miRange2, e_miTup, e_miLst, e_body, e_addII, e_addIB, e_addSS, e_addTT, e_addRR, e_subII, e_mulII, e_fdivII, e_modII, e_powII, e_ltII, e_leII, e_gtII, e_geII, e_is, e_isNot, e_ixT, e_ixR, e_ixS, e_ixD, e_inD, e_isIns, e_fLenS, e_fLenT, e_fLenR, e_fMax2, e_fMin2, e_fAbs, e_fIntI, e_fIntB, e_fBoolI, e_fBoolB, e_mExcF, e_tryNil, e_tryCons, e_mBM, e_append, e_extend, e_gmUnl, e_mEqO, e_mNeO, e_fLenO, e_fBoolO, e_mtTO, e_mInO, e_mNotInO, e_mGetO, e_mComp, e_mtYes, putD, List.getElem?_cons_zero, List.getElem?_cons_succ, List.set_cons_zero, List.set_cons_succ, List.map_cons, List.map_nil, List.length_cons, List.length_nil, List.cons_append, List.nil_append, List.append_nil, List.replicate, Nat.reduceAdd, Nat.reduceSub, Nat.reduceLeDiff, Nat.zero_add, true_and, and_true, reduceIte, Bool.false_eq_true, Bool.true_eq_false, Bool.not_true, Bool.not_false, h1, sf_moved]
  exact moved_ok (w.get ma) hz ha h
theorem scall_w (w : W n B L S) (ma : (j, syo z a) ∈ L) (hz : Net z) (ha : a.ok z) (h : q (pD (a.at_ z p)) S) :
    isIns "Symmetry" (.ref j) S (fun _ => isIns "Symmetry" (.ref j) S (fun _ => u_Symmetry_call [.ref j, pD p] S q x)) :=
  insS_w w ma (insS_w w ma (scall_core w ma hz ha h))
theorem s_net (h : S[j]? = some (syo z a)) : u_Symmetry_net [.ref j] S q x = q (.str z) S := by
  rw [e_u_Symmetry_net, e_b_Symmetry_net]
  unfold syo at h
  simp only [e_mNext, e_mSeq, e_mExpr, e_mRet, e_mRetN, e_mIfS, e_mBreak, e_mCont, e_mAsg, e_mPar, e_gmName, e_gmNil, e_gmCons, e_gmTup, e_gmSub, e_mVar, e_mC, e_mOp, e_mtB, e_mtT, e_mtNot, e_mtAnd, e_mtOr, e_mAnd, e_mOr, e_mAndT, e_mOrT, e_mIf, e_mNotB, e_mChain, e_maNil, e_maCons, e_mTup, e_mLst, e_mCall, e_mFld, e_mProp, e_mMeth, e_mMake, e_mSetF, e_mUnO, e_mBinO, e_mCallO, e_mCMeth, e_mRaise, e_mTry, e_mFn, e_mNeg, e_mIsiB, e_mIsiO, e_mFor, e_miRange1, e_miRange2, e_miTup, e_miLst, e_body, e_addII, e_addIB, e_addSS, e_addTT, e_addRR, e_subII, e_mulII, e_fdivII, e_modII, e_powII, e_ltII, e_leII, e_gtII, e_geII, e_is, e_isNot, e_ixT, e_ixR, e_ixS, e_ixD, e_inD, e_isIns, e_fLenS, e_fLenT, e_fLenR, e_fMax2, e_fMin2, e_fAbs, e_fIntI, e_fIntB, e_fBoolI, e_fBoolB, e_mExcF, e_tryNil, e_tryCons, e_mBM, e_append, e_extend, e_gmUnl, e_mEqO, e_mNeO, e_fLenO, e_fBoolO, e_mtTO, e_mInO, e_mNotInO, e_mGetO, e_mComp, e_mtYes, putD, List.getElem?_cons_zero, List.getElem?_cons_succ, List.set_cons_zero, List.set_cons_succ, List.map_cons, List.map_nil, List.length_cons, List.length_nil, List.cons_append, List.nil_append, List.append_nil, List.replicate, Nat.reduceAdd, Nat.reduceSub, Nat.reduceLeDiff, Nat.zero_add, true_and, and_true, reduceIte, Bool.false_eq_true, Bool.true_eq_false, Bool.not_true, Bool.not_false, h, sf_net]
theorem s_place (h : S[j]? = some (syo z a)) : u_Symmetry_place [.ref j] S q x = q (pD a.p) S := by
  rw [e_u_Symmetry_place, e_b_Symmetry_place]
  unfold syo at h
  simp only [e_mNext, e_mSeq, e_mExpr, e_mRet, e_mRetN, e_mIfS, e_mBreak, e_mCont, e_mAsg, e_mPar, e_gmName, e_gmNil, e_gmCons, e_gmTup, e_gmSub, e_mVar, e_mC, e_mOp, e_mtB, e_mtT, e_mtNot, e_mtAnd, e_mtOr, e_mAnd, e_mOr, e_mAndT, e_mOrT, e_mIf, e_mNotB, e_mChain, e_maNil, e_maCons, e_mTup, e_mLst, e_mCall, e_mFld, e_mProp, e_mMeth, e_mMake, e_mSetF, e_mUnO, e_mBinO, e_mCallO, e_mCMeth, e_mRaise, e_mTry, e_mFn, e_mNeg, e_mIsiB, e_mIsiO, e_mFor, e_miRange1, e_miRange2, e_miTup, e_miLst, e_body, e_addII, e_addIB, e_addSS, e_addTT, e_addRR, e_subII, e_mulII, e_fdivII, e_modII, e_powII, e_ltII, e_leII, e_gtII, e_geII, e_is, e_isNot, e_ixT, e_ixR, e_ixS, e_ixD, e_inD, e_isIns, e_fLenS, e_fLenT, e_fLenR, e_fMax2, e_fMin2, e_fAbs, e_fIntI, e_fIntB, e_fBoolI, e_fBoolB, e_mExcF, e_tryNil, e_tryCons, e_mBM, e_append, e_extend, e_gmUnl, e_mEqO, e_mNeO, e_fLenO, e_fBoolO, e_mtTO, e_mInO, e_mNotInO, e_mGetO, e_mComp, e_mtYes, putD, List.getElem?_cons_zero, List.getElem?_cons_succ, List.set_cons_zero, List.set_cons_succ, List.map_cons, List.map_nil, List.length_cons, List.length_nil, List.cons_append, List.nil_append, List.append_nil, List.replicate, Nat.reduceAdd, Nat.reduceSub, Nat.reduceLeDiff, Nat.zero_add, true_and, and_true, reduceIte, Bool.false_eq_true, Bool.true_eq_false, Bool.not_true, Bool.not_false, h, sf_place]
theorem s_turn (h : S[j]? = some (syo z a)) : u_Symmetry_turn [.ref j] S q x = q (.int a.t) S := by
  rw [e_u_Symmetry_turn, e_b_Symmetry_turn]
  unfold syo at h
  simp only [e_mNext, e_mSeq, e_mExpr, e_mRet, e_mRetN, e_mIfS, e_mBreak, e_mCont, e_mAsg, e_mPar, e_gmName, e_gmNil, e_gmCons, e_gmTup, e_gmSub, e_mVar, e_mC, e_mOp, e_mtB, e_mtT, e_mtNot, e_mtAnd, e_mtOr, e_mAnd, e_mOr, e_mAndT, e_mOrT, e_mIf, e_mNotB, e_mChain, e_maNil, e_maCons, e_mTup, e_mLst, e_mCall, e_mFld, e_mProp, e_mMeth, e_mMake, e_mSetF, e_mUnO, e_mBinO, e_mCallO, e_mCMeth, e_mRaise, e_mTry, e_mFn, e_mNeg, e_mIsiB, e_mIsiO, e_mFor, e_miRange1, e_miRange2, e_miTup, e_miLst, e_body, e_addII, e_addIB, e_addSS, e_addTT, e_addRR, e_subII, e_mulII, e_fdivII, e_modII, e_powII, e_ltII, e_leII, e_gtII, e_geII, e_is, e_isNot, e_ixT, e_ixR, e_ixS, e_ixD, e_inD, e_isIns, e_fLenS, e_fLenT, e_fLenR, e_fMax2, e_fMin2, e_fAbs, e_fIntI, e_fIntB, e_fBoolI, e_fBoolB, e_mExcF, e_tryNil, e_tryCons, e_mBM, e_append, e_extend, e_gmUnl, e_mEqO, e_mNeO, e_fLenO, e_fBoolO, e_mtTO, e_mInO, e_mNotInO, e_mGetO, e_mComp, e_mtYes, putD, List.getElem?_cons_zero, List.getElem?_cons_succ, List.set_cons_zero, List.set_cons_succ, List.map_cons, List.map_nil, List.length_cons, List.length_nil, List.cons_append, List.nil_append, List.append_nil, List.replicate, Nat.reduceAdd, Nat.reduceSub, Nat.reduceLeDiff, Nat.zero_add, true_and, and_true, reduceIte, Bool.false_eq_true, Bool.true_eq_false, Bool.not_true, Bool.not_false, h, sf_turn]
theorem s_mir (h : S[j]? = some (syo z a)) : u_Symmetry_mirrored [.ref j] S q x = q (.bl a.f) S := by
  rw [e_u_Symmetry_mirrored, e_b_Symmetry_mirrored]
  unfold syo at h
  simp only [e_mNext, e_mSeq, e_mExpr, e_mRet, e_mRetN, e_mIfS, e_mBreak, e_mCont, e_mAsg, e_mPar, e_gmName, e_gmNil, e_gmCons, e_gmTup, e_gmSub, e_mVar, e_mC, e_mOp, e_mtB, e_mtT, e_mtNot, e_mtAnd, e_mtOr, e_mAnd, e_mOr, e_mAndT, e_mOrT, e_mIf, e_mNotB, e_mChain, e_maNil, e_maCons, e_mTup, e_mLst, e_mCall, e_mFld, e_mProp, e_mMeth, e_mMake, e_mSetF, e_mUnO, e_mBinO, e_mCallO, e_mCMeth, e_mRaise, e_mTry, e_mFn, e_mNeg, e_mIsiB, e_mIsiO, e_mFor, e_miRange1, e_miRange2, e_miTup, e_miLst, e_body, e_addII, e_addIB, e_addSS, e_addTT, e_addRR, e_subII, e_mulII, e_fdivII, e_modII, e_powII, e_ltII, e_leII, e_gtII, e_geII, e_is, e_isNot, e_ixT, e_ixR, e_ixS, e_ixD, e_inD, e_isIns, e_fLenS, e_fLenT, e_fLenR, e_fMax2, e_fMin2, e_fAbs, e_fIntI, e_fIntB, e_fBoolI, e_fBoolB, e_mExcF, e_tryNil, e_tryCons, e_mBM, e_append, e_extend, e_gmUnl, e_mEqO, e_mNeO, e_fLenO, e_fBoolO, e_mtTO, e_mInO, e_mNotInO, e_mGetO, e_mComp, e_mtYes, putD, List.getElem?_cons_zero, List.getElem?_cons_succ, List.set_cons_zero, List.set_cons_succ, List.map_cons, List.map_nil, List.length_cons, List.length_nil, List.cons_append, List.nil_append, List.append_nil, List.replicate, Nat.reduceAdd, Nat.reduceSub, Nat.reduceLeDiff, Nat.zero_add, true_and, and_true, reduceIte, Bool.false_eq_true, Bool.true_eq_false, Bool.not_true, Bool.not_false, h, sf_mir]
theorem snet_w (w : W n B L S) (ma : (j, syo z a) ∈ L) (h : q (.str z) S) : isIns "Symmetry" (.ref j) S (fun _ => u_Symmetry_net [.ref j] S q x) := insS_w w ma (by rw [s_net (w.get ma)]; exact h)
theorem splace_w (w : W n B L S) (ma : (j, syo z a) ∈ L) (h : q (pD a.p) S) : isIns "Symmetry" (.ref j) S (fun _ => u_Symmetry_place [.ref j] S q x) := insS_w w ma (by rw [s_place (w.get ma)]; exact h)
theorem sturn_w (w : W n B L S) (ma : (j, syo z a) ∈ L) (h : q (.int a.t) S) : isIns "Symmetry" (.ref j) S (fun _ => u_Symmetry_turn [.ref j] S q x) := insS_w w ma (by rw [s_turn (w.get ma)]; exact h)
theorem smir_w (w : W n B L S) (ma : (j, syo z a) ∈ L) (h : q (.bl a.f) S) : isIns "Symmetry" (.ref j) S (fun _ => u_Symmetry_mirrored [.ref j] S q x) := insS_w w ma (by rw [s_mir (w.get ma)]; exact h)
theorem seq_core (w : W n B L S) (ma : (j, syo z a) ∈ L) (mb : (j2, syo z2 b) ∈ L) (hz : Net z) (hz2 : Net z2) (h : q (.bl (decide (z = z2) && a.beq b)) S) : u_Symmetry_eq [.ref j, .ref j2] S q x := by
  have h1 := w.get ma
  have h2 := w.get mb
  have e := tyD_sy h2
  unfold syo at h1 h2
  rw [e_u_Symmetry_eq, e_b_Symmetry_eq, e_b_Symmetry_eq_1]
  simp only [e_mNext, e_mSeq, e_mExpr, e_mRet, e_mRetN, e_mIfS, e_mBreak, e_mCont, e_mAsg, e_mPar, e_gmName, e_gmNil, e_gmCons, e_gmTup, e_gmSub, e_mVar, e_mC, e_mOp, e_mtB, e_mtT, e_mtNot, e_mtAnd, e_mtOr, e_mAnd, e_mOr, e_mAndT, e_mOrT, e_mIf, e_mNotB, e_mChain, e_maNil, e_maCons, e_mTup, e_mLst, e_mCall, e_mFld, e_mProp, e_mMeth, e_mMake, e_mSetF, e_mUnO, e_mBinO, e_mCallO, e_mCMeth, e_mRaise, e_mTry, e_mFn, e_mNeg, e_mIsiB, e_mIsiO, e_mFor, e_miRange1, e_miRange2, e_miTup, e_miLst, e_body, e_addII, e_addIB, e_addSS, e_addTT, e_addRR, e_subII, e_mulII, e_fdivII, e_modII, e_powII, e_ltII, e_leII, e_gtII, e_geII, e_is, e_isNot, e_ixT, e_ixR, e_ixS, e_ixD, e_inD, e_isIns, e_fLenS, e_fLenT, e_fLenR, e_fMax2, e_fMin2, e_fAbs, e_fIntI, e_fIntB, e_fBoolI, e_fBoolB, e_mExcF, e_tryNil, e_tryCons, e_mBM, e_append, e_extend, e_gmUnl, e_mEqO, e_mNeO, e_fLenO, e_fBoolO, e_mtTO, e_mInO, e_mNotInO, e_mGetO, e_mComp, e_mtYes, putD, List.getElem?_cons_zero, List.getElem?_cons_succ, List.set_cons_zero, List.set_cons_succ, List.map_cons, List.map_nil, List.length_cons, List.length_nil, List.cons_append, List.nil_append, List.append_nil, List.replicate, Nat.reduceAdd, Nat.reduceSub, Nat.reduceLeDiff, Nat.zero_add, true_and, and_true, reduceIte, Bool.false_eq_true, Bool.true_eq_false, Bool.not_true, Bool.not_false, e, beq_self_eq_true]
  refine ⟨cls_sy, ?_⟩
  simp only [e_mNext, e_mSeq, e_mExpr, e_mRet, e_mRetN, e_mIfS, e_mBreak, e_mCont, e_mAsg, e_mPar, e_gmName, e_gmNil, e_gmCons, e_gmTup, e_gmSub, e_mVar, e_mC, e_mOp, e_mtB, e_mtT, e_mtNot, e_mtAnd, e_mtOr, e_mAnd, e_mOr, e_mAndT, e_mOrT, e_mIf, e_mNotB, e_mChain, e_maNil, e_maCons, e_mTup, e_mLst, e_mCall, e_mFld, e_mProp, e_mMeth, e_mMake, e_mSetF, e_mUnO, e_mBinO, e_mCallO, e_mCMeth, e_mRaise, e_mTry, e_mFn, e_mNeg, e_mIsiB, e_mIsiO, e_mFor, e_miRange1, e_miRange2, e_miTup, e_miLst, e_body, e_addII, e_addIB, e_addSS, e_addTT, e_addRR, e_subII, e_mulII, e_fdivII, e_modII, e_powII, e_ltII, e_leII, e_gtII, e_geII, e_is, e_isNot, e_ixT, e_ixR, e_ixS, e_ixD, e_inD, e_isIns, e_fLenS, e_fLenT, e_fLenR, e_fMax2, e_fMin2, e_fAbs, e_fIntI, e_fIntB, e_fBoolI, e_fBoolB, e_mExcF, e_tryNil, e_tryCons, e_mBM, e_append, e_extend, e_gmUnl, e_mEqO, e_mNeO, e_fLenO, e_fBoolO, e_mtTO, e_mInO, e_mNotInO, e_mGetO, e_mComp, e_mtYes, putD, List.getElem?_cons_zero, List.getElem?_cons_succ, List.set_cons_zero, List.set_cons_succ, List.map_cons, List.map_nil, List.length_cons, List.length_nil, List.cons_append, List.nil_append, List.append_nil, List.replicate, Nat.reduceAdd, Nat.reduceSub, Nat.reduceLeDiff, Nat.zero_add, true_and, and_true, reduceIte, Bool.false_eq_true, Bool.true_eq_false, Bool.not_true, Bool.not_false, h1, h2, sf_net]
  refine mNe_net hz hz2 ?_
  unfold Sy.beq at h
  cases e1 : decide (z = z2) <;> rw [e1] at h <;> simp only [Bool.not_false, Bool.not_true, e_mNext, e_mSeq, e_mExpr, e_mRet, e_mRetN, e_mIfS, e_mBreak, e_mCont, e_mAsg, e_mPar, e_gmName, e_gmNil, e_gmCons, e_gmTup, e_gmSub, e_mVar, e_mC, e_mOp, e_mtB, e_mtT, e_mtNot, e_mtAnd, e_mtOr, e_mAnd, e_mOr, e_mAndT, e_mOrT, e_mIf, e_mNotB, e_mChain, e_maNil, e_maCons, e_mTup, e_mLst, e_mCall, e_mFld, e_mProp, e_mMeth, e_mMake, e_mSetF, e_mUnO, e_mBinO, e_mCallO, e_mCMeth, e_mRaise, e_mTry, e_mFn, e_mNeg, e_mIsiB, e_mIsiO, e_mFor, e_miRange1, e_miRange2, e_miTup, e_miLst, e_body, e_addII, e_addIB, e_addSS, e_addTT, e_addRR, e_subII, e_mulII, e_fdivII, e_modII, e_powII, e_ltII, e_leII, e_gtII, e_geII, e_is, e_isNot, e_ixT, e_ixR, e_ixS, e_ixD, e_inD, e_isIns, e_fLenS, e_fLenT, e_fLenR, e_fMax2, e_fMin2, e_fAbs, e_fIntI, e_fIntB, e_fBoolI, e_fBoolB, e_mExcF, e_tryNil, e_tryCons, e_mBM, e_append, e_extend, e_gmUnl, e_mEqO, e_mNeO, e_fLenO, e_fBoolO, e_mtTO, e_mInO, e_mNotInO, e_mGetO, e_mComp, e_mtYes, putD, List.getElem?_cons_zero, List.getElem?_cons_succ, List.set_cons_zero, List.set_cons_succ, List.map_cons, List.map_nil, List.length_cons, List.length_nil, List.cons_append, List.nil_append, List.append_nil, List.replicate, Nat.reduceAdd, Nat.reduceSub, Nat.reduceLeDiff, Nat.zero_add, true_and, and_true, reduceIte, Bool.false_eq_true, Bool.true_eq_false, Bool.not_true, Bool.not_false, Bool.false_and, Bool.true_and] at h ⊢
  · exact h
  · simp only [e_mNext, e_mSeq, e_mExpr, e_mRet, e_mRetN, e_mIfS, e_mBreak, e_mCont, e_mAsg, e_mPar, e_gmName, e_gmNil, e_gmCons, e_gmTup, e_gmSub, e_mVar, e_mC, e_mOp, e_mtB, e_mtT, e_mtNot, e_mtAnd, e_mtOr, e_mAnd, e_mOr, e_mAndT, e_mOrT, e_mIf, e_mNotB, e_mChain, e_maNil, e_maCons, e_mTup, e_mLst, e_mCall, e_mFld, e_mProp, e_mMeth, e_mMake, e_mSetF, e_mUnO, e_mBinO, e_mCallO, e_mCMeth, e_mRaise, e_mTry, e_mFn, e_mNeg, e_mIsiB, e_mIsiO, e_mFor, e_miRange1, e_miRange2, e_miTup, e_miLst, e_body, e_addII, e_addIB, e_addSS, e_addTT, e_addRR, e_subII, e_mulII, e_fdivII, e_modII, e_powII, e_ltII, e_leII, e_gtII, e_geII, e_is, e_isNot, e_ixT, e_ixR, e_ixS, e_ixD, e_inD, e_isIns, e_fLenS, e_fLenT, e_fLenR, e_fMax2, e_fMin2, e_fAbs, e_fIntI, e_fIntB, e_fBoolI, e_fBoolB, e_mExcF, e_tryNil, e_tryCons, e_mBM, e_append, e_extend, e_gmUnl, e_mEqO, e_mNeO, e_fLenO, e_fBoolO, e_mtTO, e_mInO, e_mNotInO, e_mGetO, e_mComp, e_mtYes, putD, List.getElem?_cons_zero, List.getElem?_cons_succ, List.set_cons_zero, List.set_cons_succ, List.map_cons, List.map_nil, List.length_cons, List.length_nil, List.cons_append, List.nil_append, List.append_nil, List.replicate, Nat.reduceAdd, Nat.reduceSub, Nat.reduceLeDiff, Nat.zero_add, true_and, and_true, reduceIte, Bool.false_eq_true, Bool.true_eq_false, Bool.not_true, Bool.not_false, h1, h2, sf_turn, sf_mir, sf_place, mNe_int', mNe_bl, mEq_pl]
    cases e2 : a.t == b.t <;> cases e3 : a.f == b.f <;> simp only [e2, e3, bne, Bool.not_false, Bool.not_true, e_mNext, e_mSeq, e_mExpr, e_mRet, e_mRetN, e_mIfS, e_mBreak, e_mCont, e_mAsg, e_mPar, e_gmName, e_gmNil, e_gmCons, e_gmTup, e_gmSub, e_mVar, e_mC, e_mOp, e_mtB, e_mtT, e_mtNot, e_mtAnd, e_mtOr, e_mAnd, e_mOr, e_mAndT, e_mOrT, e_mIf, e_mNotB, e_mChain, e_maNil, e_maCons, e_mTup, e_mLst, e_mCall, e_mFld, e_mProp, e_mMeth, e_mMake, e_mSetF, e_mUnO, e_mBinO, e_mCallO, e_mCMeth, e_mRaise, e_mTry, e_mFn, e_mNeg, e_mIsiB, e_mIsiO, e_mFor, e_miRange1, e_miRange2, e_miTup, e_miLst, e_body, e_addII, e_addIB, e_addSS, e_addTT, e_addRR, e_subII, e_mulII, e_fdivII, e_modII, e_powII, e_ltII, e_leII, e_gtII, e_geII, e_is, e_isNot, e_ixT, e_ixR, e_ixS, e_ixD, e_inD, e_isIns, e_fLenS, e_fLenT, e_fLenR, e_fMax2, e_fMin2, e_fAbs, e_fIntI, e_fIntB, e_fBoolI, e_fBoolB, e_mExcF, e_tryNil, e_tryCons, e_mBM, e_append, e_extend, e_gmUnl, e_mEqO, e_mNeO, e_fLenO, e_fBoolO, e_mtTO, e_mInO, e_mNotInO, e_mGetO, e_mComp, e_mtYes, putD, List.getElem?_cons_zero, List.getElem?_cons_succ, List.set_cons_zero, List.set_cons_succ, List.map_cons, List.map_nil, List.length_cons, List.length_nil, List.cons_append, List.nil_append, List.append_nil, List.replicate, Nat.reduceAdd, Nat.reduceSub, Nat.reduceLeDiff, Nat.zero_add, true_and, and_true, reduceIte, Bool.false_eq_true, Bool.true_eq_false, Bool.not_true, Bool.not_false, Bool.false_and, Bool.true_and, h1, h2, sf_turn, sf_mir, sf_place, mNe_int', mNe_bl, mEq_pl] at h ⊢ <;> exact h
theorem seq_no {s : String} {d : D} (hd : tyD S d = some (.b s)) : u_Symmetry_eq [.ref j, d] S q x = q (.bl false) S := by
  rw [e_u_Symmetry_eq, e_b_Symmetry_eq]
  simp only [e_mNext, e_mSeq, e_mExpr, e_mRet, e_mRetN, e_mIfS, e_mBreak, e_mCont, e_mAsg, e_mPar, e_gmName, e_gmNil, e_gmCons, e_gmTup, e_gmSub, e_mVar, e_mC, e_mOp, e_mtB, e_mtT, e_mtNot, e_mtAnd, e_mtOr, e_mAnd, e_mOr, e_mAndT, e_mOrT, e_mIf, e_mNotB, e_mChain, e_maNil, e_maCons, e_mTup, e_mLst, e_mCall, e_mFld, e_mProp, e_mMeth, e_mMake, e_mSetF, e_mUnO, e_mBinO, e_mCallO, e_mCMeth, e_mRaise, e_mTry, e_mFn, e_mNeg, e_mIsiB, e_mIsiO, e_mFor, e_miRange1, e_miRange2, e_miTup, e_miLst, e_body, e_addII, e_addIB, e_addSS, e_addTT, e_addRR, e_subII, e_mulII, e_fdivII, e_modII, e_powII, e_ltII, e_leII, e_gtII, e_geII, e_is, e_isNot, e_ixT, e_ixR, e_ixS, e_ixD, e_inD, e_isIns, e_fLenS, e_fLenT, e_fLenR, e_fMax2, e_fMin2, e_fAbs, e_fIntI, e_fIntB, e_fBoolI, e_fBoolB, e_mExcF, e_tryNil, e_tryCons, e_mBM, e_append, e_extend, e_gmUnl, e_mEqO, e_mNeO, e_fLenO, e_fBoolO, e_mtTO, e_mInO, e_mNotInO, e_mGetO, e_mComp, e_mtYes, putD, List.getElem?_cons_zero, List.getElem?_cons_succ, List.set_cons_zero, List.set_cons_succ, List.map_cons, List.map_nil, List.length_cons, List.length_nil, List.cons_append, List.nil_append, List.append_nil, List.replicate, Nat.reduceAdd, Nat.reduceSub, Nat.reduceLeDiff, Nat.zero_add, true_and, and_true, reduceIte, Bool.false_eq_true, Bool.true_eq_false, Bool.not_true, Bool.not_false, hd]
theorem seq_w (w : W n B L S) (ma : (j, syo z a) ∈ L) (mb : (j2, syo z2 b) ∈ L) (hz : Net z) (hz2 : Net z2) (h : q (.bl (decide (z = z2) && a.beq b)) S) :
    isIns "Symmetry" (.ref j) S (fun _ => okE CLS (.ref j2) S ∧ u_Symmetry_eq [.ref j, .ref j2] S q x) :=
  insS_w w ma ⟨by simp only [okE, tyD_sy (w.get mb), cls_sy], seq_core w ma mb hz hz2 h⟩
theorem sne_w {K : Bool → Sto → Prop} (w : W n B L S) (ma : (j, syo z a) ∈ L) (mb : (j2, syo z b) ∈ L) (hz : Net z) (h : K (a.beq b) S) :
    isIns "Symmetry" (.ref j) S (fun _ => okE CLS (.ref j2) S ∧ u_Symmetry_eq [.ref j, .ref j2] S (fun r S3 => match r with
    | .bl k => K k S3
    | _ => False) noQ) :=
  insS_w w ma ⟨by simp only [okE, tyD_sy (w.get mb), cls_sy], seq_core w ma mb hz hz (by simpa using h)⟩
theorem snes_w {K : Bool → Sto → Prop} (w : W n B L S) (ma : (j, syo z a) ∈ L) (mb : (j2, syo z b) ∈ L) (hz : Net z) (e : a = b) (h : K true S) :
    isIns "Symmetry" (.ref j) S (fun _ => okE CLS (.ref j2) S ∧ u_Symmetry_eq [.ref j, .ref j2] S (fun r S3 => match r with
    | .bl k => K k S3
    | _ => False) noQ) := sne_w w ma mb hz (by rw [e, Sy.beq_refl]; exact h)
theorem sbool_core (w : W n B L S) (ma : (j, syo z a) ∈ L) (h : q (.bl (!a.beq .one)) S) : u_Symmetry_bool [.ref j] S q x := by
  have h1 := w.get ma
  unfold syo at h1
  rw [e_u_Symmetry_bool, e_b_Symmetry_bool]
  simp only [e_mNext, e_mSeq, e_mExpr, e_mRet, e_mRetN, e_mIfS, e_mBreak, e_mCont, e_mAsg, e_mPar, e_gmName, e_gmNil, e_gmCons, e_gmTup, e_gmSub, e_mVar, e_mC, e_mOp, e_mtB, e_mtT, e_mtNot, e_mtAnd, e_mtOr, e_mAnd, e_mOr, e_mAndT, e_mOrT, e_mIf, e_mNotB, e_mChain, e_maNil, e_maCons, e_mTup, e_mLst, e_mCall, e_mFld, e_mProp, e_mMeth, e_mMake, e_mSetF, e_mUnO, e_mBinO, e_mCallO, e_mCMeth, e_mRaise, e_mTry, e_mFn, e_mNeg, e_mIsiB, e_mIsiO, e_mFor, e_miRange1, e_miRange2, e_miTup, e_miLst, e_body, e_addII, e_addIB, e_addSS, e_addTT, e_addRR, e_subII, e_mulII, e_fdivII, e_modII, e_powII, e_ltII, e_leII, e_gtII, e_geII, e_is, e_isNot, e_ixT, e_ixR, e_ixS, e_ixD, e_inD, e_isIns, e_fLenS, e_fLenT, e_fLenR, e_fMax2, e_fMin2, e_fAbs, e_fIntI, e_fIntB, e_fBoolI, e_fBoolB, e_mExcF, e_tryNil, e_tryCons, e_mBM, e_append, e_extend, e_gmUnl, e_mEqO, e_mNeO, e_fLenO, e_fBoolO, e_mtTO, e_mInO, e_mNotInO, e_mGetO, e_mComp, e_mtYes, putD, List.getElem?_cons_zero, List.getElem?_cons_succ, List.set_cons_zero, List.set_cons_succ, List.map_cons, List.map_nil, List.length_cons, List.length_nil, List.cons_append, List.nil_append, List.append_nil, List.replicate, Nat.reduceAdd, Nat.reduceSub, Nat.reduceLeDiff, Nat.zero_add, true_and, and_true, reduceIte, Bool.false_eq_true, Bool.true_eq_false, Bool.not_true, Bool.not_false, h1, sf_turn, sf_place, sf_mir, truD, ix0, ix1]
  have e : (!a.beq .one) = (a.f || (a.t != 0 || (a.p.1 != 0 || a.p.2 != 0))) := by
    simp only [Sy.beq, Sy.one, bne, Bool.not_and]
    cases a.f <;> cases (a.t == 0) <;> cases (a.p.1 == 0) <;> cases (a.p.2 == 0) <;> rfl
  rw [e] at h
  cases e0 : a.f <;> cases e1 : (a.t != 0) <;> cases e2 : (a.p.1 != 0) <;> simp only [e0, e1, e2, e_mNext, e_mSeq, e_mExpr, e_mRet, e_mRetN, e_mIfS, e_mBreak, e_mCont, e_mAsg, e_mPar, e_gmName, e_gmNil, e_gmCons, e_gmTup, e_gmSub, e_mVar, e_mC, e_mOp, e_mtB, e_mtT, e_mtNot, e_mtAnd, e_mtOr, e_mAnd, e_mOr, e_mAndT, e_mOrT, e_mIf, e_mNotB, e_mChain, e_maNil, e_maCons, e_mTup, e_mLst, e_mCall, e_mFld, e_mProp, e_mMeth, e_mMake, e_mSetF, e_mUnO, e_mBinO, e_mCallO, e_mCMeth, e_mRaise, e_mTry, e_mFn, e_mNeg, e_mIsiB, e_mIsiO, e_mFor, e_miRange1, e_miRange2, e_miTup, e_miLst, e_body, e_addII, e_addIB, e_addSS, e_addTT, e_addRR, e_subII, e_mulII, e_fdivII, e_modII, e_powII, e_ltII, e_leII, e_gtII, e_geII, e_is, e_isNot, e_ixT, e_ixR, e_ixS, e_ixD, e_inD, e_isIns, e_fLenS, e_fLenT, e_fLenR, e_fMax2, e_fMin2, e_fAbs, e_fIntI, e_fIntB, e_fBoolI, e_fBoolB, e_mExcF, e_tryNil, e_tryCons, e_mBM, e_append, e_extend, e_gmUnl, e_mEqO, e_mNeO, e_fLenO, e_fBoolO, e_mtTO, e_mInO, e_mNotInO, e_mGetO, e_mComp, e_mtYes, putD, List.getElem?_cons_zero, List.getElem?_cons_succ, List.set_cons_zero, List.set_cons_succ, List.map_cons, List.map_nil, List.length_cons, List.length_nil, List.cons_append, List.nil_append, List.append_nil, List.replicate, Nat.reduceAdd, Nat.reduceSub, Nat.reduceLeDiff, Nat.zero_add, true_and, and_true, reduceIte, Bool.false_eq_true, Bool.true_eq_false, Bool.not_true, Bool.not_false, h1, sf_turn, sf_place, sf_mir, truD, ix0, ix1, Bool.false_or, Bool.true_or] at h ⊢ <;> exact h
theorem sboolO_w {K : Bool → Sto → Prop} (w : W n B L S) (ma : (j, syo z a) ∈ L) (h : K (!a.beq .one) S) : isIns "Symmetry" (.ref j) S (fun _ => u_Symmetry_bool [.ref j] S (fun r S3 => match r with
    | .bl b => K b S3
    | _ => False) noQ) :=
  insS_w w ma (sbool_core w ma h)
end
end Lw

namespace Lw
open PySem PySem.Spec PyProof.Rows L2

section
variable {n : Nat} {B : Sto} {L L' : List (Nat × O)} {S S0 S' : Sto} {j j2 i r : Nat} {o : O} {ds xs : List D} {q : QD} {x : QX} {z z2 : Str} {a b c m : Sy} {u v t k : Int} {f g : Bool} {K : QD} {p p2 : Int × Int} {md : MEnds}
theorem atI_get {i : Int} (h0 : 0 ≤ i) (h1 : i < (ds.length : Int)) : L2.atI ds i = ds[i.toNat]? := by
  unfold L2.atI L2.ixN
  simp [h0, h1]
abbrev stpD (z : Str) : List D := (stp z).map pD
theorem steps2_w (w : W n B L S) (hz : Net z) (h : ∀ i S', W n B ((i, .lst (stpD z)) :: L) S' → q (.ref i) S') : u__law_steps [.str z] S q x := by
  rw [e_u__law_steps, e_b__law_steps, e_b__law_steps_1]
  simp only [e_mNext, e_mSeq, e_mExpr, e_mRet, e_mRetN, e_mIfS, e_mBreak, e_mCont, e_mAsg, e_mPar, e_gmName, e_gmNil, e_gmCons, e_gmTup, e_gmSub, e_mVar, e_mC, e_mOp, e_mtB, e_mtT, e_mtNot, e_mtAnd, e_mtOr, e_mAnd, e_mOr, e_mAndT, e_mOrT, e_mIf, e_mNotB, e_mChain, e_maNil, e_maCons, e_mTup, e_mCall, e_mFld, e_mProp, e_mMeth, e_mUnO, e_mBinO, e_mCallO, e_mCMeth, e_mRaise, e_mTry, e_mFn, e_mNeg, e_mIsiB, e_mIsiO, e_mFor, e_miRange1, e_miRange2, e_miTup, e_body, e_addII, e_addIB, e_addSS, e_addTT, e_subII, e_mulII, e_fdivII, e_modII, e_powII, e_ltII, e_leII, e_gtII, e_geII, e_is, e_isNot, e_ixT, e_ixS, e_ixD, e_inD, e_fLenS, e_fLenT, e_fMax2, e_fMin2, e_fAbs, e_fIntI, e_fIntB, e_fBoolI, e_fBoolB, e_mExcF, e_tryNil, e_tryCons, e_mBM, e_mEqO, e_mNeO, e_fLenO, e_fBoolO, e_mtTO, e_mInO, e_mNotInO, e_mGetO, e_mtYes, putD, List.getElem?_cons_zero, List.getElem?_cons_succ, List.set_cons_zero, List.set_cons_succ, List.map_cons, List.map_nil, List.length_cons, List.length_nil, List.cons_append, List.nil_append, List.append_nil, List.replicate, Nat.reduceAdd, Nat.reduceSub, Nat.reduceLeDiff, Nat.zero_add, true_and, and_true, reduceIte, Bool.false_eq_true, Bool.true_eq_false, Bool.not_true, Bool.not_false, w_mLst, w_mMake, w_miLst, w_gmUnl, w_mComp, compL_nil, w_compL, w_mSetF, w_addRR]
  rw [mEq_str (strOk_net hz) (by decide +kernel)]
  rcases hz with rfl | rfl
  · simp only [e_mNext, e_mSeq, e_mExpr, e_mRet, e_mRetN, e_mIfS, e_mBreak, e_mCont, e_mAsg, e_mPar, e_gmName, e_gmNil, e_gmCons, e_gmTup, e_gmSub, e_mVar, e_mC, e_mOp, e_mtB, e_mtT, e_mtNot, e_mtAnd, e_mtOr, e_mAnd, e_mOr, e_mAndT, e_mOrT, e_mIf, e_mNotB, e_mChain, e_maNil, e_maCons, e_mTup, e_mCall, e_mFld, e_mProp, e_mMeth, e_mUnO, e_mBinO, e_mCallO, e_mCMeth, e_mRaise, e_mTry, e_mFn, e_mNeg, e_mIsiB, e_mIsiO, e_mFor, e_miRange1, e_miRange2, e_miTup, e_body, e_addII, e_addIB, e_addSS, e_addTT, e_subII, e_mulII, e_fdivII, e_modII, e_powII, e_ltII, e_leII, e_gtII, e_geII, e_is, e_isNot, e_ixT, e_ixS, e_ixD, e_inD, e_fLenS, e_fLenT, e_fMax2, e_fMin2, e_fAbs, e_fIntI, e_fIntB, e_fBoolI, e_fBoolB, e_mExcF, e_tryNil, e_tryCons, e_mBM, e_mEqO, e_mNeO, e_fLenO, e_fBoolO, e_mtTO, e_mInO, e_mNotInO, e_mGetO, e_mtYes, putD, List.getElem?_cons_zero, List.getElem?_cons_succ, List.set_cons_zero, List.set_cons_succ, List.map_cons, List.map_nil, List.length_cons, List.length_nil, List.cons_append, List.nil_append, List.append_nil, List.replicate, Nat.reduceAdd, Nat.reduceSub, Nat.reduceLeDiff, Nat.zero_add, true_and, and_true, reduceIte, Bool.false_eq_true, Bool.true_eq_false, Bool.not_true, Bool.not_false, w_mLst, w_mMake, w_miLst, w_gmUnl, w_mComp, compL_nil, w_compL, w_mSetF, w_addRR, beq_self_eq_true]
    refine ⟨(sl_pos (by simp)), (sl_pos (by simp)), (sl_pos (by simp)), (sl_pos (by simp)), (sl_pos (by simp)), ?_⟩
    intro i S1 ei eS
    refine h i S1 ?_
    unfold stpD
    rw [stp_sq]
    exact w.new ei eS
  · have e : (("triangle" : Str) == "square") = false := by decide
    simp only [e_mNext, e_mSeq, e_mExpr, e_mRet, e_mRetN, e_mIfS, e_mBreak, e_mCont, e_mAsg, e_mPar, e_gmName, e_gmNil, e_gmCons, e_gmTup, e_gmSub, e_mVar, e_mC, e_mOp, e_mtB, e_mtT, e_mtNot, e_mtAnd, e_mtOr, e_mAnd, e_mOr, e_mAndT, e_mOrT, e_mIf, e_mNotB, e_mChain, e_maNil, e_maCons, e_mTup, e_mCall, e_mFld, e_mProp, e_mMeth, e_mUnO, e_mBinO, e_mCallO, e_mCMeth, e_mRaise, e_mTry, e_mFn, e_mNeg, e_mIsiB, e_mIsiO, e_mFor, e_miRange1, e_miRange2, e_miTup, e_body, e_addII, e_addIB, e_addSS, e_addTT, e_subII, e_mulII, e_fdivII, e_modII, e_powII, e_ltII, e_leII, e_gtII, e_geII, e_is, e_isNot, e_ixT, e_ixS, e_ixD, e_inD, e_fLenS, e_fLenT, e_fMax2, e_fMin2, e_fAbs, e_fIntI, e_fIntB, e_fBoolI, e_fBoolB, e_mExcF, e_tryNil, e_tryCons, e_mBM, e_mEqO, e_mNeO, e_fLenO, e_fBoolO, e_mtTO, e_mInO, e_mNotInO, e_mGetO, e_mtYes, putD, List.getElem?_cons_zero, List.getElem?_cons_succ, List.set_cons_zero, List.set_cons_succ, List.map_cons, List.map_nil, List.length_cons, List.length_nil, List.cons_append, List.nil_append, List.append_nil, List.replicate, Nat.reduceAdd, Nat.reduceSub, Nat.reduceLeDiff, Nat.zero_add, true_and, and_true, reduceIte, Bool.false_eq_true, Bool.true_eq_false, Bool.not_true, Bool.not_false, w_mLst, w_mMake, w_miLst, w_gmUnl, w_mComp, compL_nil, w_compL, w_mSetF, w_addRR, e]
    refine ⟨(sl_pos (by simp)), (sl_pos (by simp)), (sl_pos (by simp)), (sl_pos (by simp)), (sl_pos (by simp)), (sl_pos (by simp)), (sl_pos (by simp)), ?_⟩
    intro i S1 ei eS
    refine h i S1 ?_
    unfold stpD
    rw [stp_tri]
    exact w.new ei eS
theorem stpD_len (hz : Net z) : ((stpD z).length : Int) = hc z := by
  rw [List.length_map]
  exact stp_len hz
theorem lflip_ok (hz : Net z) (h : q (pD (flip z p)) S) : u__law_flip [.str z, pD p] S q x := by
  rw [e_u__law_flip, e_b__law_flip]
  simp only [e_mNext, e_mSeq, e_mExpr, e_mRet, e_mRetN, e_mIfS, e_mBreak, e_mCont, e_mAsg, e_mPar, e_gmName, e_gmNil, e_gmCons, e_gmTup, e_gmSub, e_mVar, e_mC, e_mOp, e_mtB, e_mtT, e_mtNot, e_mtAnd, e_mtOr, e_mAnd, e_mOr, e_mAndT, e_mOrT, e_mIf, e_mNotB, e_mChain, e_maNil, e_maCons, e_mTup, e_mCall, e_mFld, e_mProp, e_mMeth, e_mUnO, e_mBinO, e_mCallO, e_mCMeth, e_mRaise, e_mTry, e_mFn, e_mNeg, e_mIsiB, e_mIsiO, e_mFor, e_miRange1, e_miRange2, e_miTup, e_body, e_addII, e_addIB, e_addSS, e_addTT, e_subII, e_mulII, e_fdivII, e_modII, e_powII, e_ltII, e_leII, e_gtII, e_geII, e_is, e_isNot, e_ixT, e_ixS, e_ixD, e_inD, e_fLenS, e_fLenT, e_fMax2, e_fMin2, e_fAbs, e_fIntI, e_fIntB, e_fBoolI, e_fBoolB, e_mExcF, e_tryNil, e_tryCons, e_mBM, e_mEqO, e_mNeO, e_fLenO, e_fBoolO, e_mtTO, e_mInO, e_mNotInO, e_mGetO, e_mtYes, putD, List.getElem?_cons_zero, List.getElem?_cons_succ, List.set_cons_zero, List.set_cons_succ, List.map_cons, List.map_nil, List.length_cons, List.length_nil, List.cons_append, List.nil_append, List.append_nil, List.replicate, Nat.reduceAdd, Nat.reduceSub, Nat.reduceLeDiff, Nat.zero_add, true_and, and_true, reduceIte, Bool.false_eq_true, Bool.true_eq_false, Bool.not_true, Bool.not_false, w_mLst, w_mMake, w_miLst, w_gmUnl, w_mComp, compL_nil, w_compL, w_mSetF, w_addRR]
  rw [mEq_str (strOk_net hz) (by decide +kernel)]
  unfold flip at h
  rcases hz with rfl | rfl
  · simp only [e_mNext, e_mSeq, e_mExpr, e_mRet, e_mRetN, e_mIfS, e_mBreak, e_mCont, e_mAsg, e_mPar, e_gmName, e_gmNil, e_gmCons, e_gmTup, e_gmSub, e_mVar, e_mC, e_mOp, e_mtB, e_mtT, e_mtNot, e_mtAnd, e_mtOr, e_mAnd, e_mOr, e_mAndT, e_mOrT, e_mIf, e_mNotB, e_mChain, e_maNil, e_maCons, e_mTup, e_mCall, e_mFld, e_mProp, e_mMeth, e_mUnO, e_mBinO, e_mCallO, e_mCMeth, e_mRaise, e_mTry, e_mFn, e_mNeg, e_mIsiB, e_mIsiO, e_mFor, e_miRange1, e_miRange2, e_miTup, e_body, e_addII, e_addIB, e_addSS, e_addTT, e_subII, e_mulII, e_fdivII, e_modII, e_powII, e_ltII, e_leII, e_gtII, e_geII, e_is, e_isNot, e_ixT, e_ixS, e_ixD, e_inD, e_fLenS, e_fLenT, e_fMax2, e_fMin2, e_fAbs, e_fIntI, e_fIntB, e_fBoolI, e_fBoolB, e_mExcF, e_tryNil, e_tryCons, e_mBM, e_mEqO, e_mNeO, e_fLenO, e_fBoolO, e_mtTO, e_mInO, e_mNotInO, e_mGetO, e_mtYes, putD, List.getElem?_cons_zero, List.getElem?_cons_succ, List.set_cons_zero, List.set_cons_succ, List.map_cons, List.map_nil, List.length_cons, List.length_nil, List.cons_append, List.nil_append, List.append_nil, List.replicate, Nat.reduceAdd, Nat.reduceSub, Nat.reduceLeDiff, Nat.zero_add, true_and, and_true, reduceIte, Bool.false_eq_true, Bool.true_eq_false, Bool.not_true, Bool.not_false, w_mLst, w_mMake, w_miLst, w_gmUnl, w_mComp, compL_nil, w_compL, w_mSetF, w_addRR, beq_self_eq_true, ix0, ix1, Int.zero_sub]
    exact ⟨(sl_pos (by simp)), h⟩
  · have e : (("triangle" : Str) == "square") = false := by decide
    simp only [tri_ne, if_false] at h
    simp only [e_mNext, e_mSeq, e_mExpr, e_mRet, e_mRetN, e_mIfS, e_mBreak, e_mCont, e_mAsg, e_mPar, e_gmName, e_gmNil, e_gmCons, e_gmTup, e_gmSub, e_mVar, e_mC, e_mOp, e_mtB, e_mtT, e_mtNot, e_mtAnd, e_mtOr, e_mAnd, e_mOr, e_mAndT, e_mOrT, e_mIf, e_mNotB, e_mChain, e_maNil, e_maCons, e_mTup, e_mCall, e_mFld, e_mProp, e_mMeth, e_mUnO, e_mBinO, e_mCallO, e_mCMeth, e_mRaise, e_mTry, e_mFn, e_mNeg, e_mIsiB, e_mIsiO, e_mFor, e_miRange1, e_miRange2, e_miTup, e_body, e_addII, e_addIB, e_addSS, e_addTT, e_subII, e_mulII, e_fdivII, e_modII, e_powII, e_ltII, e_leII, e_gtII, e_geII, e_is, e_isNot, e_ixT, e_ixS, e_ixD, e_inD, e_fLenS, e_fLenT, e_fMax2, e_fMin2, e_fAbs, e_fIntI, e_fIntB, e_fBoolI, e_fBoolB, e_mExcF, e_tryNil, e_tryCons, e_mBM, e_mEqO, e_mNeO, e_fLenO, e_fBoolO, e_mtTO, e_mInO, e_mNotInO, e_mGetO, e_mtYes, putD, List.getElem?_cons_zero, List.getElem?_cons_succ, List.set_cons_zero, List.set_cons_succ, List.map_cons, List.map_nil, List.length_cons, List.length_nil, List.cons_append, List.nil_append, List.append_nil, List.replicate, Nat.reduceAdd, Nat.reduceSub, Nat.reduceLeDiff, Nat.zero_add, true_and, and_true, reduceIte, Bool.false_eq_true, Bool.true_eq_false, Bool.not_true, Bool.not_false, w_mLst, w_mMake, w_miLst, w_gmUnl, w_mComp, compL_nil, w_compL, w_mSetF, w_addRR, e, ix0, ix1, Int.zero_sub]
    exact ⟨(sl_pos (by simp)), h⟩
abbrev pts (a : Sy) : List D := [pD a.p, .int a.t, .bl a.f]
theorem taken_w (w : W n B L S) (mr : (r, .lst (pts a)) ∈ L) (hz : Net z) (ha : a.ok z) (h : ∀ S', W n B L S' → q (pD (a.at_ z p)) S') : u__law_taken [.str z, .ref r, pD p] S q x := by
  rw [e_u__law_taken, e_b__law_taken, e_b__law_taken_1]
  simp only [e_mNext, e_mSeq, e_mExpr, e_mRet, e_mRetN, e_mIfS, e_mBreak, e_mCont, e_mAsg, e_mPar, e_gmName, e_gmNil, e_gmCons, e_gmTup, e_gmSub, e_mVar, e_mC, e_mOp, e_mtB, e_mtT, e_mtNot, e_mtAnd, e_mtOr, e_mAnd, e_mOr, e_mAndT, e_mOrT, e_mIf, e_mNotB, e_mChain, e_maNil, e_maCons, e_mTup, e_mCall, e_mFld, e_mProp, e_mMeth, e_mUnO, e_mBinO, e_mCallO, e_mCMeth, e_mRaise, e_mTry, e_mFn, e_mNeg, e_mIsiB, e_mIsiO, e_mFor, e_miRange1, e_miRange2, e_miTup, e_body, e_addII, e_addIB, e_addSS, e_addTT, e_subII, e_mulII, e_fdivII, e_modII, e_powII, e_ltII, e_leII, e_gtII, e_geII, e_is, e_isNot, e_ixT, e_ixS, e_ixD, e_inD, e_fLenS, e_fLenT, e_fMax2, e_fMin2, e_fAbs, e_fIntI, e_fIntB, e_fBoolI, e_fBoolB, e_mExcF, e_tryNil, e_tryCons, e_mBM, e_mEqO, e_mNeO, e_fLenO, e_fBoolO, e_mtTO, e_mInO, e_mNotInO, e_mGetO, e_mtYes, putD, List.getElem?_cons_zero, List.getElem?_cons_succ, List.set_cons_zero, List.set_cons_succ, List.map_cons, List.map_nil, List.length_cons, List.length_nil, List.cons_append, List.nil_append, List.append_nil, List.replicate, Nat.reduceAdd, Nat.reduceSub, Nat.reduceLeDiff, Nat.zero_add, true_and, and_true, reduceIte, Bool.false_eq_true, Bool.true_eq_false, Bool.not_true, Bool.not_false, w_mLst, w_mMake, w_miLst, w_gmUnl, w_mComp, compL_nil, w_compL, w_mSetF, w_addRR]
  refine unl_ok w mr rfl ?_
  simp only [e_mNext, e_mSeq, e_mExpr, e_mRet, e_mRetN, e_mIfS, e_mBreak, e_mCont, e_mAsg, e_mPar, e_gmName, e_gmNil, e_gmCons, e_gmTup, e_gmSub, e_mVar, e_mC, e_mOp, e_mtB, e_mtT, e_mtNot, e_mtAnd, e_mtOr, e_mAnd, e_mOr, e_mAndT, e_mOrT, e_mIf, e_mNotB, e_mChain, e_maNil, e_maCons, e_mTup, e_mCall, e_mFld, e_mProp, e_mMeth, e_mUnO, e_mBinO, e_mCallO, e_mCMeth, e_mRaise, e_mTry, e_mFn, e_mNeg, e_mIsiB, e_mIsiO, e_mFor, e_miRange1, e_miRange2, e_miTup, e_body, e_addII, e_addIB, e_addSS, e_addTT, e_subII, e_mulII, e_fdivII, e_modII, e_powII, e_ltII, e_leII, e_gtII, e_geII, e_is, e_isNot, e_ixT, e_ixS, e_ixD, e_inD, e_fLenS, e_fLenT, e_fMax2, e_fMin2, e_fAbs, e_fIntI, e_fIntB, e_fBoolI, e_fBoolB, e_mExcF, e_tryNil, e_tryCons, e_mBM, e_mEqO, e_mNeO, e_fLenO, e_fBoolO, e_mtTO, e_mInO, e_mNotInO, e_mGetO, e_mtYes, putD, List.getElem?_cons_zero, List.getElem?_cons_succ, List.set_cons_zero, List.set_cons_succ, List.map_cons, List.map_nil, List.length_cons, List.length_nil, List.cons_append, List.nil_append, List.append_nil, List.replicate, Nat.reduceAdd, Nat.reduceSub, Nat.reduceLeDiff, Nat.zero_add, true_and, and_true, reduceIte, Bool.false_eq_true, Bool.true_eq_false, Bool.not_true, Bool.not_false, w_mLst, w_mMake, w_miLst, w_gmUnl, w_mComp, compL_nil, w_compL, w_mSetF, w_addRR, truD]
  have fin : ∀ S', W n B L S' → q (.tup [.int ((lin z a.t a.f p).1 + a.p.1), .int ((lin z a.t a.f p).2 + a.p.2)]) S' := fun S' w => by
    have e := h S' w
    unfold Sy.at_ at e
    rw [Int.add_comm _ a.p.1, Int.add_comm _ a.p.2]
    exact e
  cases hf : a.f with
  | true =>
    rw [hf] at fin
    simp only [e_mNext, e_mSeq, e_mExpr, e_mRet, e_mRetN, e_mIfS, e_mBreak, e_mCont, e_mAsg, e_mPar, e_gmName, e_gmNil, e_gmCons, e_gmTup, e_gmSub, e_mVar, e_mC, e_mOp, e_mtB, e_mtT, e_mtNot, e_mtAnd, e_mtOr, e_mAnd, e_mOr, e_mAndT, e_mOrT, e_mIf, e_mNotB, e_mChain, e_maNil, e_maCons, e_mTup, e_mCall, e_mFld, e_mProp, e_mMeth, e_mUnO, e_mBinO, e_mCallO, e_mCMeth, e_mRaise, e_mTry, e_mFn, e_mNeg, e_mIsiB, e_mIsiO, e_mFor, e_miRange1, e_miRange2, e_miTup, e_body, e_addII, e_addIB, e_addSS, e_addTT, e_subII, e_mulII, e_fdivII, e_modII, e_powII, e_ltII, e_leII, e_gtII, e_geII, e_is, e_isNot, e_ixT, e_ixS, e_ixD, e_inD, e_fLenS, e_fLenT, e_fMax2, e_fMin2, e_fAbs, e_fIntI, e_fIntB, e_fBoolI, e_fBoolB, e_mExcF, e_tryNil, e_tryCons, e_mBM, e_mEqO, e_mNeO, e_fLenO, e_fBoolO, e_mtTO, e_mInO, e_mNotInO, e_mGetO, e_mtYes, putD, List.getElem?_cons_zero, List.getElem?_cons_succ, List.set_cons_zero, List.set_cons_succ, List.map_cons, List.map_nil, List.length_cons, List.length_nil, List.cons_append, List.nil_append, List.append_nil, List.replicate, Nat.reduceAdd, Nat.reduceSub, Nat.reduceLeDiff, Nat.zero_add, true_and, and_true, reduceIte, Bool.false_eq_true, Bool.true_eq_false, Bool.not_true, Bool.not_false, w_mLst, w_mMake, w_miLst, w_gmUnl, w_mComp, compL_nil, w_compL, w_mSetF, w_addRR]
    refine lflip_ok hz ?_
    try simp only [e_mNext, e_mSeq, e_mExpr, e_mRet, e_mRetN, e_mIfS, e_mBreak, e_mCont, e_mAsg, e_mPar, e_gmName, e_gmNil, e_gmCons, e_gmTup, e_gmSub, e_mVar, e_mC, e_mOp, e_mtB, e_mtT, e_mtNot, e_mtAnd, e_mtOr, e_mAnd, e_mOr, e_mAndT, e_mOrT, e_mIf, e_mNotB, e_mChain, e_maNil, e_maCons, e_mTup, e_mCall, e_mFld, e_mProp, e_mMeth, e_mUnO, e_mBinO, e_mCallO, e_mCMeth, e_mRaise, e_mTry, e_mFn, e_mNeg, e_mIsiB, e_mIsiO, e_mFor, e_miRange1, e_miRange2, e_miTup, e_body, e_addII, e_addIB, e_addSS, e_addTT, e_subII, e_mulII, e_fdivII, e_modII, e_powII, e_ltII, e_leII, e_gtII, e_geII, e_is, e_isNot, e_ixT, e_ixS, e_ixD, e_inD, e_fLenS, e_fLenT, e_fMax2, e_fMin2, e_fAbs, e_fIntI, e_fIntB, e_fBoolI, e_fBoolB, e_mExcF, e_tryNil, e_tryCons, e_mBM, e_mEqO, e_mNeO, e_fLenO, e_fBoolO, e_mtTO, e_mInO, e_mNotInO, e_mGetO, e_mtYes, putD, List.getElem?_cons_zero, List.getElem?_cons_succ, List.set_cons_zero, List.set_cons_succ, List.map_cons, List.map_nil, List.length_cons, List.length_nil, List.cons_append, List.nil_append, List.append_nil, List.replicate, Nat.reduceAdd, Nat.reduceSub, Nat.reduceLeDiff, Nat.zero_add, true_and, and_true, reduceIte, Bool.false_eq_true, Bool.true_eq_false, Bool.not_true, Bool.not_false, w_mLst, w_mMake, w_miLst, w_gmUnl, w_mComp, compL_nil, w_compL, w_mSetF, w_addRR]
    refine rotated_w w hz ha.1 ha.2 fun S1 w => ?_
    simp only [e_mNext, e_mSeq, e_mExpr, e_mRet, e_mRetN, e_mIfS, e_mBreak, e_mCont, e_mAsg, e_mPar, e_gmName, e_gmNil, e_gmCons, e_gmTup, e_gmSub, e_mVar, e_mC, e_mOp, e_mtB, e_mtT, e_mtNot, e_mtAnd, e_mtOr, e_mAnd, e_mOr, e_mAndT, e_mOrT, e_mIf, e_mNotB, e_mChain, e_maNil, e_maCons, e_mTup, e_mCall, e_mFld, e_mProp, e_mMeth, e_mUnO, e_mBinO, e_mCallO, e_mCMeth, e_mRaise, e_mTry, e_mFn, e_mNeg, e_mIsiB, e_mIsiO, e_mFor, e_miRange1, e_miRange2, e_miTup, e_body, e_addII, e_addIB, e_addSS, e_addTT, e_subII, e_mulII, e_fdivII, e_modII, e_powII, e_ltII, e_leII, e_gtII, e_geII, e_is, e_isNot, e_ixT, e_ixS, e_ixD, e_inD, e_fLenS, e_fLenT, e_fMax2, e_fMin2, e_fAbs, e_fIntI, e_fIntB, e_fBoolI, e_fBoolB, e_mExcF, e_tryNil, e_tryCons, e_mBM, e_mEqO, e_mNeO, e_fLenO, e_fBoolO, e_mtTO, e_mInO, e_mNotInO, e_mGetO, e_mtYes, putD, List.getElem?_cons_zero, List.getElem?_cons_succ, List.set_cons_zero, List.set_cons_succ, List.map_cons, List.map_nil, List.length_cons, List.length_nil, List.cons_append, List.nil_append, List.append_nil, List.replicate, Nat.reduceAdd, Nat.reduceSub, Nat.reduceLeDiff, Nat.zero_add, true_and, and_true, reduceIte, Bool.false_eq_true, Bool.true_eq_false, Bool.not_true, Bool.not_false, w_mLst, w_mMake, w_miLst, w_gmUnl, w_mComp, compL_nil, w_compL, w_mSetF, w_addRR, ix0, ix1]
    exact ⟨(sl_pos (by simp)), fin S1 w⟩
  | false =>
    rw [hf] at fin
    simp only [e_mNext, e_mSeq, e_mExpr, e_mRet, e_mRetN, e_mIfS, e_mBreak, e_mCont, e_mAsg, e_mPar, e_gmName, e_gmNil, e_gmCons, e_gmTup, e_gmSub, e_mVar, e_mC, e_mOp, e_mtB, e_mtT, e_mtNot, e_mtAnd, e_mtOr, e_mAnd, e_mOr, e_mAndT, e_mOrT, e_mIf, e_mNotB, e_mChain, e_maNil, e_maCons, e_mTup, e_mCall, e_mFld, e_mProp, e_mMeth, e_mUnO, e_mBinO, e_mCallO, e_mCMeth, e_mRaise, e_mTry, e_mFn, e_mNeg, e_mIsiB, e_mIsiO, e_mFor, e_miRange1, e_miRange2, e_miTup, e_body, e_addII, e_addIB, e_addSS, e_addTT, e_subII, e_mulII, e_fdivII, e_modII, e_powII, e_ltII, e_leII, e_gtII, e_geII, e_is, e_isNot, e_ixT, e_ixS, e_ixD, e_inD, e_fLenS, e_fLenT, e_fMax2, e_fMin2, e_fAbs, e_fIntI, e_fIntB, e_fBoolI, e_fBoolB, e_mExcF, e_tryNil, e_tryCons, e_mBM, e_mEqO, e_mNeO, e_fLenO, e_fBoolO, e_mtTO, e_mInO, e_mNotInO, e_mGetO, e_mtYes, putD, List.getElem?_cons_zero, List.getElem?_cons_succ, List.set_cons_zero, List.set_cons_succ, List.map_cons, List.map_nil, List.length_cons, List.length_nil, List.cons_append, List.nil_append, List.append_nil, List.replicate, Nat.reduceAdd, Nat.reduceSub, Nat.reduceLeDiff, Nat.zero_add, true_and, and_true, reduceIte, Bool.false_eq_true, Bool.true_eq_false, Bool.not_true, Bool.not_false, w_mLst, w_mMake, w_miLst, w_gmUnl, w_mComp, compL_nil, w_compL, w_mSetF, w_addRR]
    refine rotated_w w hz ha.1 ha.2 fun S1 w => ?_
    simp only [e_mNext, e_mSeq, e_mExpr, e_mRet, e_mRetN, e_mIfS, e_mBreak, e_mCont, e_mAsg, e_mPar, e_gmName, e_gmNil, e_gmCons, e_gmTup, e_gmSub, e_mVar, e_mC, e_mOp, e_mtB, e_mtT, e_mtNot, e_mtAnd, e_mtOr, e_mAnd, e_mOr, e_mAndT, e_mOrT, e_mIf, e_mNotB, e_mChain, e_maNil, e_maCons, e_mTup, e_mCall, e_mFld, e_mProp, e_mMeth, e_mUnO, e_mBinO, e_mCallO, e_mCMeth, e_mRaise, e_mTry, e_mFn, e_mNeg, e_mIsiB, e_mIsiO, e_mFor, e_miRange1, e_miRange2, e_miTup, e_body, e_addII, e_addIB, e_addSS, e_addTT, e_subII, e_mulII, e_fdivII, e_modII, e_powII, e_ltII, e_leII, e_gtII, e_geII, e_is, e_isNot, e_ixT, e_ixS, e_ixD, e_inD, e_fLenS, e_fLenT, e_fMax2, e_fMin2, e_fAbs, e_fIntI, e_fIntB, e_fBoolI, e_fBoolB, e_mExcF, e_tryNil, e_tryCons, e_mBM, e_mEqO, e_mNeO, e_fLenO, e_fBoolO, e_mtTO, e_mInO, e_mNotInO, e_mGetO, e_mtYes, putD, List.getElem?_cons_zero, List.getElem?_cons_succ, List.set_cons_zero, List.set_cons_succ, List.map_cons, List.map_nil, List.length_cons, List.length_nil, List.cons_append, List.nil_append, List.append_nil, List.replicate, Nat.reduceAdd, Nat.reduceSub, Nat.reduceLeDiff, Nat.zero_add, true_and, and_true, reduceIte, Bool.false_eq_true, Bool.true_eq_false, Bool.not_true, Bool.not_false, w_mLst, w_mMake, w_miLst, w_gmUnl, w_mComp, compL_nil, w_compL, w_mSetF, w_addRR, ix0, ix1]
    exact ⟨(sl_pos (by simp)), fin S1 w⟩
theorem next_w (w : W n B L S) (hz : Net z) (h0 : 0 ≤ u) (h : ∀ S' e, (stp z)[(u % hc z).toNat]? = some e → W n B L S' → q (pD (p.1 + e.1, p.2 + e.2)) S') : u__law_next [.str z, pD p, .int u] S q x := by
  rw [e_u__law_next, e_b__law_next]
  simp only [e_mNext, e_mSeq, e_mExpr, e_mRet, e_mRetN, e_mIfS, e_mBreak, e_mCont, e_mAsg, e_mPar, e_gmName, e_gmNil, e_gmCons, e_gmTup, e_gmSub, e_mVar, e_mC, e_mOp, e_mtB, e_mtT, e_mtNot, e_mtAnd, e_mtOr, e_mAnd, e_mOr, e_mAndT, e_mOrT, e_mIf, e_mNotB, e_mChain, e_maNil, e_maCons, e_mTup, e_mCall, e_mFld, e_mProp, e_mMeth, e_mUnO, e_mBinO, e_mCallO, e_mCMeth, e_mRaise, e_mTry, e_mFn, e_mNeg, e_mIsiB, e_mIsiO, e_mFor, e_miRange1, e_miRange2, e_miTup, e_body, e_addII, e_addIB, e_addSS, e_addTT, e_subII, e_mulII, e_fdivII, e_modII, e_powII, e_ltII, e_leII, e_gtII, e_geII, e_is, e_isNot, e_ixT, e_ixS, e_ixD, e_inD, e_fLenS, e_fLenT, e_fMax2, e_fMin2, e_fAbs, e_fIntI, e_fIntB, e_fBoolI, e_fBoolB, e_mExcF, e_tryNil, e_tryCons, e_mBM, e_mEqO, e_mNeO, e_fLenO, e_fBoolO, e_mtTO, e_mInO, e_mNotInO, e_mGetO, e_mtYes, putD, List.getElem?_cons_zero, List.getElem?_cons_succ, List.set_cons_zero, List.set_cons_succ, List.map_cons, List.map_nil, List.length_cons, List.length_nil, List.cons_append, List.nil_append, List.append_nil, List.replicate, Nat.reduceAdd, Nat.reduceSub, Nat.reduceLeDiff, Nat.zero_add, true_and, and_true, reduceIte, Bool.false_eq_true, Bool.true_eq_false, Bool.not_true, Bool.not_false, w_mLst, w_mMake, w_miLst, w_gmUnl, w_mComp, compL_nil, w_compL, w_mSetF, w_addRR]
  refine steps2_w w hz fun i1 S1 w => ?_
  try simp only [e_mNext, e_mSeq, e_mExpr, e_mRet, e_mRetN, e_mIfS, e_mBreak, e_mCont, e_mAsg, e_mPar, e_gmName, e_gmNil, e_gmCons, e_gmTup, e_gmSub, e_mVar, e_mC, e_mOp, e_mtB, e_mtT, e_mtNot, e_mtAnd, e_mtOr, e_mAnd, e_mOr, e_mAndT, e_mOrT, e_mIf, e_mNotB, e_mChain, e_maNil, e_maCons, e_mTup, e_mCall, e_mFld, e_mProp, e_mMeth, e_mUnO, e_mBinO, e_mCallO, e_mCMeth, e_mRaise, e_mTry, e_mFn, e_mNeg, e_mIsiB, e_mIsiO, e_mFor, e_miRange1, e_miRange2, e_miTup, e_body, e_addII, e_addIB, e_addSS, e_addTT, e_subII, e_mulII, e_fdivII, e_modII, e_powII, e_ltII, e_leII, e_gtII, e_geII, e_is, e_isNot, e_ixT, e_ixS, e_ixD, e_inD, e_fLenS, e_fLenT, e_fMax2, e_fMin2, e_fAbs, e_fIntI, e_fIntB, e_fBoolI, e_fBoolB, e_mExcF, e_tryNil, e_tryCons, e_mBM, e_mEqO, e_mNeO, e_fLenO, e_fBoolO, e_mtTO, e_mInO, e_mNotInO, e_mGetO, e_mtYes, putD, List.getElem?_cons_zero, List.getElem?_cons_succ, List.set_cons_zero, List.set_cons_succ, List.map_cons, List.map_nil, List.length_cons, List.length_nil, List.cons_append, List.nil_append, List.append_nil, List.replicate, Nat.reduceAdd, Nat.reduceSub, Nat.reduceLeDiff, Nat.zero_add, true_and, and_true, reduceIte, Bool.false_eq_true, Bool.true_eq_false, Bool.not_true, Bool.not_false, w_mLst, w_mMake, w_miLst, w_gmUnl, w_mComp, compL_nil, w_compL, w_mSetF, w_addRR]
  refine steps2_w w hz fun i2 S2 w => ?_
  refine len_ok w (by repeat (first | exact List.Mem.head _ | apply List.Mem.tail)) ?_
  rw [stpD_len hz]
  simp only [e_mNext, e_mSeq, e_mExpr, e_mRet, e_mRetN, e_mIfS, e_mBreak, e_mCont, e_mAsg, e_mPar, e_gmName, e_gmNil, e_gmCons, e_gmTup, e_gmSub, e_mVar, e_mC, e_mOp, e_mtB, e_mtT, e_mtNot, e_mtAnd, e_mtOr, e_mAnd, e_mOr, e_mAndT, e_mOrT, e_mIf, e_mNotB, e_mChain, e_maNil, e_maCons, e_mTup, e_mCall, e_mFld, e_mProp, e_mMeth, e_mUnO, e_mBinO, e_mCallO, e_mCMeth, e_mRaise, e_mTry, e_mFn, e_mNeg, e_mIsiB, e_mIsiO, e_mFor, e_miRange1, e_miRange2, e_miTup, e_body, e_addII, e_addIB, e_addSS, e_addTT, e_subII, e_mulII, e_fdivII, e_modII, e_powII, e_ltII, e_leII, e_gtII, e_geII, e_is, e_isNot, e_ixT, e_ixS, e_ixD, e_inD, e_fLenS, e_fLenT, e_fMax2, e_fMin2, e_fAbs, e_fIntI, e_fIntB, e_fBoolI, e_fBoolB, e_mExcF, e_tryNil, e_tryCons, e_mBM, e_mEqO, e_mNeO, e_fLenO, e_fBoolO, e_mtTO, e_mInO, e_mNotInO, e_mGetO, e_mtYes, putD, List.getElem?_cons_zero, List.getElem?_cons_succ, List.set_cons_zero, List.set_cons_succ, List.map_cons, List.map_nil, List.length_cons, List.length_nil, List.cons_append, List.nil_append, List.append_nil, List.replicate, Nat.reduceAdd, Nat.reduceSub, Nat.reduceLeDiff, Nat.zero_add, true_and, and_true, reduceIte, Bool.false_eq_true, Bool.true_eq_false, Bool.not_true, Bool.not_false, w_mLst, w_mMake, w_miLst, w_gmUnl, w_mComp, compL_nil, w_compL, w_mSetF, w_addRR]
  refine ⟨hc_pos z, ?_⟩
  have k0 := Int.emod_nonneg u (Int.ne_of_gt (hc_pos z))
  have k1 := Int.emod_lt_of_pos u (hc_pos z)
  have hl := stp_len hz
  have hg : (u % hc z).toNat < (stp z).length := by omega
  have eg : (stp z)[(u % hc z).toNat]? = some (stp z)[(u % hc z).toNat] := List.getElem?_eq_getElem hg
  refine ix_ok w (y := pD (stp z)[(u % hc z).toNat]) (by repeat (first | exact List.Mem.head _ | apply List.Mem.tail)) ?_ ?_
  · rw [atI_get k0 (by rw [stpD_len hz]; exact k1), List.getElem?_map, eg]
    rfl
  · simp only [e_mNext, e_mSeq, e_mExpr, e_mRet, e_mRetN, e_mIfS, e_mBreak, e_mCont, e_mAsg, e_mPar, e_gmName, e_gmNil, e_gmCons, e_gmTup, e_gmSub, e_mVar, e_mC, e_mOp, e_mtB, e_mtT, e_mtNot, e_mtAnd, e_mtOr, e_mAnd, e_mOr, e_mAndT, e_mOrT, e_mIf, e_mNotB, e_mChain, e_maNil, e_maCons, e_mTup, e_mCall, e_mFld, e_mProp, e_mMeth, e_mUnO, e_mBinO, e_mCallO, e_mCMeth, e_mRaise, e_mTry, e_mFn, e_mNeg, e_mIsiB, e_mIsiO, e_mFor, e_miRange1, e_miRange2, e_miTup, e_body, e_addII, e_addIB, e_addSS, e_addTT, e_subII, e_mulII, e_fdivII, e_modII, e_powII, e_ltII, e_leII, e_gtII, e_geII, e_is, e_isNot, e_ixT, e_ixS, e_ixD, e_inD, e_fLenS, e_fLenT, e_fMax2, e_fMin2, e_fAbs, e_fIntI, e_fIntB, e_fBoolI, e_fBoolB, e_mExcF, e_tryNil, e_tryCons, e_mBM, e_mEqO, e_mNeO, e_fLenO, e_fBoolO, e_mtTO, e_mInO, e_mNotInO, e_mGetO, e_mtYes, putD, List.getElem?_cons_zero, List.getElem?_cons_succ, List.set_cons_zero, List.set_cons_succ, List.map_cons, List.map_nil, List.length_cons, List.length_nil, List.cons_append, List.nil_append, List.append_nil, List.replicate, Nat.reduceAdd, Nat.reduceSub, Nat.reduceLeDiff, Nat.zero_add, true_and, and_true, reduceIte, Bool.false_eq_true, Bool.true_eq_false, Bool.not_true, Bool.not_false, w_mLst, w_mMake, w_miLst, w_gmUnl, w_mComp, compL_nil, w_compL, w_mSetF, w_addRR, ix0, ix1]
    exact ⟨(sl_pos (by simp)), h S2 _ eg (w.sub fun _ _ m => .tail _ (.tail _ m))⟩
theorem made_w (w : W n B L S) (mr : (r, .lst (pts a)) ∈ L) (hz : Net z) (ha : a.ok z) (h : ∀ i S', W n B ((i, syo z a) :: L) S' → q (.ref i) S') : u__law_made [.str z, .ref r] S q x := by
  rw [e_u__law_made, e_b__law_made]
  simp only [e_mNext, e_mSeq, e_mExpr, e_mRet, e_mRetN, e_mIfS, e_mBreak, e_mCont, e_mAsg, e_mPar, e_gmName, e_gmNil, e_gmCons, e_gmTup, e_gmSub, e_mVar, e_mC, e_mOp, e_mtB, e_mtT, e_mtNot, e_mtAnd, e_mtOr, e_mAnd, e_mOr, e_mAndT, e_mOrT, e_mIf, e_mNotB, e_mChain, e_maNil, e_maCons, e_mTup, e_mCall, e_mFld, e_mProp, e_mMeth, e_mUnO, e_mBinO, e_mCallO, e_mCMeth, e_mRaise, e_mTry, e_mFn, e_mNeg, e_mIsiB, e_mIsiO, e_mFor, e_miRange1, e_miRange2, e_miTup, e_body, e_addII, e_addIB, e_addSS, e_addTT, e_subII, e_mulII, e_fdivII, e_modII, e_powII, e_ltII, e_leII, e_gtII, e_geII, e_is, e_isNot, e_ixT, e_ixS, e_ixD, e_inD, e_fLenS, e_fLenT, e_fMax2, e_fMin2, e_fAbs, e_fIntI, e_fIntB, e_fBoolI, e_fBoolB, e_mExcF, e_tryNil, e_tryCons, e_mBM, e_mEqO, e_mNeO, e_fLenO, e_fBoolO, e_mtTO, e_mInO, e_mNotInO, e_mGetO, e_mtYes, putD, List.getElem?_cons_zero, List.getElem?_cons_succ, List.set_cons_zero, List.set_cons_succ, List.map_cons, List.map_nil, List.length_cons, List.length_nil, List.cons_append, List.nil_append, List.append_nil, List.replicate, Nat.reduceAdd, Nat.reduceSub, Nat.reduceLeDiff, Nat.zero_add, true_and, and_true, reduceIte, Bool.false_eq_true, Bool.true_eq_false, Bool.not_true, Bool.not_false, w_mLst, w_mMake, w_miLst, w_gmUnl, w_mComp, compL_nil, w_compL, w_mSetF, w_addRR]
  refine ix_ok w mr (y := pD a.p) rfl ?_
  try simp only [e_mNext, e_mSeq, e_mExpr, e_mRet, e_mRetN, e_mIfS, e_mBreak, e_mCont, e_mAsg, e_mPar, e_gmName, e_gmNil, e_gmCons, e_gmTup, e_gmSub, e_mVar, e_mC, e_mOp, e_mtB, e_mtT, e_mtNot, e_mtAnd, e_mtOr, e_mAnd, e_mOr, e_mAndT, e_mOrT, e_mIf, e_mNotB, e_mChain, e_maNil, e_maCons, e_mTup, e_mCall, e_mFld, e_mProp, e_mMeth, e_mUnO, e_mBinO, e_mCallO, e_mCMeth, e_mRaise, e_mTry, e_mFn, e_mNeg, e_mIsiB, e_mIsiO, e_mFor, e_miRange1, e_miRange2, e_miTup, e_body, e_addII, e_addIB, e_addSS, e_addTT, e_subII, e_mulII, e_fdivII, e_modII, e_powII, e_ltII, e_leII, e_gtII, e_geII, e_is, e_isNot, e_ixT, e_ixS, e_ixD, e_inD, e_fLenS, e_fLenT, e_fMax2, e_fMin2, e_fAbs, e_fIntI, e_fIntB, e_fBoolI, e_fBoolB, e_mExcF, e_tryNil, e_tryCons, e_mBM, e_mEqO, e_mNeO, e_fLenO, e_fBoolO, e_mtTO, e_mInO, e_mNotInO, e_mGetO, e_mtYes, putD, List.getElem?_cons_zero, List.getElem?_cons_succ, List.set_cons_zero, List.set_cons_succ, List.map_cons, List.map_nil, List.length_cons, List.length_nil, List.cons_append, List.nil_append, List.append_nil, List.replicate, Nat.reduceAdd, Nat.reduceSub, Nat.reduceLeDiff, Nat.zero_add, true_and, and_true, reduceIte, Bool.false_eq_true, Bool.true_eq_false, Bool.not_true, Bool.not_false, w_mLst, w_mMake, w_miLst, w_gmUnl, w_mComp, compL_nil, w_compL, w_mSetF, w_addRR]
  refine ix_ok w mr (y := .int a.t) rfl ?_
  try simp only [e_mNext, e_mSeq, e_mExpr, e_mRet, e_mRetN, e_mIfS, e_mBreak, e_mCont, e_mAsg, e_mPar, e_gmName, e_gmNil, e_gmCons, e_gmTup, e_gmSub, e_mVar, e_mC, e_mOp, e_mtB, e_mtT, e_mtNot, e_mtAnd, e_mtOr, e_mAnd, e_mOr, e_mAndT, e_mOrT, e_mIf, e_mNotB, e_mChain, e_maNil, e_maCons, e_mTup, e_mCall, e_mFld, e_mProp, e_mMeth, e_mUnO, e_mBinO, e_mCallO, e_mCMeth, e_mRaise, e_mTry, e_mFn, e_mNeg, e_mIsiB, e_mIsiO, e_mFor, e_miRange1, e_miRange2, e_miTup, e_body, e_addII, e_addIB, e_addSS, e_addTT, e_subII, e_mulII, e_fdivII, e_modII, e_powII, e_ltII, e_leII, e_gtII, e_geII, e_is, e_isNot, e_ixT, e_ixS, e_ixD, e_inD, e_fLenS, e_fLenT, e_fMax2, e_fMin2, e_fAbs, e_fIntI, e_fIntB, e_fBoolI, e_fBoolB, e_mExcF, e_tryNil, e_tryCons, e_mBM, e_mEqO, e_mNeO, e_fLenO, e_fBoolO, e_mtTO, e_mInO, e_mNotInO, e_mGetO, e_mtYes, putD, List.getElem?_cons_zero, List.getElem?_cons_succ, List.set_cons_zero, List.set_cons_succ, List.map_cons, List.map_nil, List.length_cons, List.length_nil, List.cons_append, List.nil_append, List.append_nil, List.replicate, Nat.reduceAdd, Nat.reduceSub, Nat.reduceLeDiff, Nat.zero_add, true_and, and_true, reduceIte, Bool.false_eq_true, Bool.true_eq_false, Bool.not_true, Bool.not_false, w_mLst, w_mMake, w_miLst, w_gmUnl, w_mComp, compL_nil, w_compL, w_mSetF, w_addRR]
  refine ix_ok w mr (y := .bl a.f) rfl ?_
  try simp only [e_mNext, e_mSeq, e_mExpr, e_mRet, e_mRetN, e_mIfS, e_mBreak, e_mCont, e_mAsg, e_mPar, e_gmName, e_gmNil, e_gmCons, e_gmTup, e_gmSub, e_mVar, e_mC, e_mOp, e_mtB, e_mtT, e_mtNot, e_mtAnd, e_mtOr, e_mAnd, e_mOr, e_mAndT, e_mOrT, e_mIf, e_mNotB, e_mChain, e_maNil, e_maCons, e_mTup, e_mCall, e_mFld, e_mProp, e_mMeth, e_mUnO, e_mBinO, e_mCallO, e_mCMeth, e_mRaise, e_mTry, e_mFn, e_mNeg, e_mIsiB, e_mIsiO, e_mFor, e_miRange1, e_miRange2, e_miTup, e_body, e_addII, e_addIB, e_addSS, e_addTT, e_subII, e_mulII, e_fdivII, e_modII, e_powII, e_ltII, e_leII, e_gtII, e_geII, e_is, e_isNot, e_ixT, e_ixS, e_ixD, e_inD, e_fLenS, e_fLenT, e_fMax2, e_fMin2, e_fAbs, e_fIntI, e_fIntB, e_fBoolI, e_fBoolB, e_mExcF, e_tryNil, e_tryCons, e_mBM, e_mEqO, e_mNeO, e_fLenO, e_fBoolO, e_mtTO, e_mInO, e_mNotInO, e_mGetO, e_mtYes, putD, List.getElem?_cons_zero, List.getElem?_cons_succ, List.set_cons_zero, List.set_cons_succ, List.map_cons, List.map_nil, List.length_cons, List.length_nil, List.cons_append, List.nil_append, List.append_nil, List.replicate, Nat.reduceAdd, Nat.reduceSub, Nat.reduceLeDiff, Nat.zero_add, true_and, and_true, reduceIte, Bool.false_eq_true, Bool.true_eq_false, Bool.not_true, Bool.not_false, w_mLst, w_mMake, w_miLst, w_gmUnl, w_mComp, compL_nil, w_compL, w_mSetF, w_addRR]
  intro j S1 ej eS
  exact syw w ej eS hz ha.1 ha.2 fun S' w => ⟨rfl, h j S' w⟩
def ptsP (a : Sy) : List PyData := [.tuple [.int a.p.1, .int a.p.2], .int a.t, .bool a.f]
theorem tr_pts {k : Nat} (h : S[j]? = some (.lst (pts a))) : tree 9 S (.ref j) = some (.list (ptsP a)) := by
  simp only [tr_lst h, tr_int, tr_str, tr_bl, tr_non, tr_tup, trL_cons, trL_nil, Option.map_some, ptsP]
theorem sh_pts : SeqAt.shaped (.list (ptsP a)) = true := by simp [ptsP, SeqAt.shaped, PyData.canLay0, PyData.canLayAll0, PyData.depth, PyData.depthAll]
theorem eqv_pts : PyData.eqv (.list (ptsP a)) (.list (ptsP b)) = a.beq b := by
  simp only [ptsP, PyData.eqv, PyData.eqvAll, Sy.beq, Bool.and_true]
  cases (a.p.1 == b.p.1) <;> cases (a.p.2 == b.p.2) <;> cases (a.t == b.t) <;> cases (a.f == b.f) <;> rfl
/-! lists of integers -/
theorem trL_ints {k : Nat} : ∀ ns : List Int, treeL (tree (k + 1) S) (ns.map D.int) = some (ns.map PyData.int)
  | [] => rfl
  | i :: ns => by
    rw [List.map_cons, trL_cons, trL_ints ns, tr_int]
    rfl
theorem lay_ints : ∀ ns : List Int, PyData.canLayAll0 (ns.map PyData.int) = true
  | [] => by simp [PyData.canLayAll0]
  | i :: ns => by simp [PyData.canLayAll0, PyData.canLay0, lay_ints ns]
theorem dep_ints : ∀ ns : List Int, PyData.depthAll (ns.map PyData.int) ≤ 1
  | [] => by simp [PyData.depthAll]
  | i :: ns => by
    have := dep_ints ns
    simp [PyData.depthAll, PyData.depth]
    omega
theorem sh_ints {ns : List Int} : SeqAt.shaped (.list (ns.map PyData.int)) = true := by
  have := dep_ints ns
  simp [SeqAt.shaped, PyData.canLay0, lay_ints, PyData.depth]
  omega
theorem mEq_nil {ns : List Int} (w : W n B L S) (m1 : (j, .lst (ns.map D.int)) ∈ L) (m2 : (i, .lst []) ∈ L) (h : q (.bl ns.isEmpty) S) : mEq (.ref j) (.ref i) S q := by
  refine mEq_of (a := .list (ns.map PyData.int)) (b := .list []) ?_ ?_ sh_ints (by simp [SeqAt.shaped, PyData.canLay0, PyData.canLayAll0, PyData.depth, PyData.depthAll]) ?_
  · rw [tr_lst (w.get m1), trL_ints]; rfl
  · rw [tr_lst (w.get m2)]; rfl
  · cases ns with
    | nil => simpa [PyData.eqv, PyData.eqvAll] using h
    | cons a as => simpa [PyData.eqv, PyData.eqvAll] using h
end
end Lw

namespace Lw
open PySem PySem.Spec PyProof.Rows L2

section
variable {n : Nat} {B : Sto} {L L' : List (Nat × O)} {S S0 S' : Sto} {j j2 i r jf jb sp : Nat} {o : O} {ds xs : List D} {q : QD} {x : QX} {z z2 : Str} {a b c m : Sy} {u v t k : Int} {f g : Bool} {K : QD} {p p2 : Int × Int} {md : MEnds}
variable {c0 c1 c2 c3 c4 c5 c6 c7 c8 c9 c10 : Option D}
theorem spot_at {i : Int} (hd : ∀ d ∈ ds, ∃ p, d = pD p) (h0 : 0 ≤ i) (h1 : i < (ds.length : Int)) : ∃ p, L2.atI ds i = some (pD p) := by
  obtain ⟨y, hy, e⟩ := atI_mem h0 h1
  obtain ⟨p, rfl⟩ := hd y hy
  exact ⟨p, e⟩
/-- neighbours stay neighbours: the ways that lead from the one to the other -/
theorem one1 (w : W n B L S) (hz : Net z) {p1 p2 : Int × Int} (hn : ∃ e ∈ stp z, p2 = (p1.1 + e.1, p1.2 + e.2)) (h : ∀ S' e9, W n B L S' → md.nx [some (.str z), c1, c2, c3, c4, c5, some (pD p1), some (pD p2), c8, e9] S') :
    b__law_one_right_1 md [some (.str z), c1, c2, c3, c4, c5, some (pD p1), some (pD p2), c8, c9] S := by
  rw [e_b__law_one_right_1]
  simp only [e_mNext, e_mSeq, e_mExpr, e_mRet, e_mRetN, e_mIfS, e_mBreak, e_mCont, e_mAsg, e_mPar, e_gmName, e_gmNil, e_gmCons, e_gmTup, e_gmSub, e_mVar, e_mC, e_mOp, e_mtB, e_mtT, e_mtNot, e_mtAnd, e_mtOr, e_mAnd, e_mOr, e_mAndT, e_mOrT, e_mIf, e_mNotB, e_mChain, e_maNil, e_maCons, e_mTup, e_mCall, e_mFld, e_mProp, e_mMeth, e_mUnO, e_mBinO, e_mCallO, e_mCMeth, e_mRaise, e_mTry, e_mFn, e_mNeg, e_mIsiB, e_mIsiO, e_mFor, e_miRange1, e_miRange2, e_miTup, e_body, e_addII, e_addIB, e_addSS, e_addTT, e_subII, e_mulII, e_fdivII, e_modII, e_powII, e_ltII, e_leII, e_gtII, e_geII, e_is, e_isNot, e_ixT, e_ixS, e_ixD, e_inD, e_fLenS, e_fLenT, e_fMax2, e_fMin2, e_fAbs, e_fIntI, e_fIntB, e_fBoolI, e_fBoolB, e_mExcF, e_tryNil, e_tryCons, e_mBM, e_mEqO, e_mNeO, e_fLenO, e_fBoolO, e_mtTO, e_mInO, e_mNotInO, e_mGetO, e_mtYes, putD, List.getElem?_cons_zero, List.getElem?_cons_succ, List.set_cons_zero, List.set_cons_succ, List.map_cons, List.map_nil, List.length_cons, List.length_nil, List.cons_append, List.nil_append, List.append_nil, List.replicate, Nat.reduceAdd, Nat.reduceSub, Nat.reduceLeDiff, Nat.zero_add, true_and, and_true, reduceIte, Bool.false_eq_true, Bool.true_eq_false, Bool.not_true, Bool.not_false, w_mLst, w_mMake, w_miLst, w_gmUnl, w_mComp, compL_nil, w_compL, w_mSetF, w_addRR]
  refine steps2_w w hz fun i1 S1 w => ?_
  refine len_ok w (by repeat (first | exact List.Mem.head _ | apply List.Mem.tail)) ?_
  rw [stpD_len hz]
  have hk := hc_pos z
  have hl := hc_le z
  simp only [e_mNext, e_mSeq, e_mExpr, e_mRet, e_mRetN, e_mIfS, e_mBreak, e_mCont, e_mAsg, e_mPar, e_gmName, e_gmNil, e_gmCons, e_gmTup, e_gmSub, e_mVar, e_mC, e_mOp, e_mtB, e_mtT, e_mtNot, e_mtAnd, e_mtOr, e_mAnd, e_mOr, e_mAndT, e_mOrT, e_mIf, e_mNotB, e_mChain, e_maNil, e_maCons, e_mTup, e_mCall, e_mFld, e_mProp, e_mMeth, e_mUnO, e_mBinO, e_mCallO, e_mCMeth, e_mRaise, e_mTry, e_mFn, e_mNeg, e_mIsiB, e_mIsiO, e_mFor, e_miRange1, e_miRange2, e_miTup, e_body, e_addII, e_addIB, e_addSS, e_addTT, e_subII, e_mulII, e_fdivII, e_modII, e_powII, e_ltII, e_leII, e_gtII, e_geII, e_is, e_isNot, e_ixT, e_ixS, e_ixD, e_inD, e_fLenS, e_fLenT, e_fMax2, e_fMin2, e_fAbs, e_fIntI, e_fIntB, e_fBoolI, e_fBoolB, e_mExcF, e_tryNil, e_tryCons, e_mBM, e_mEqO, e_mNeO, e_fLenO, e_fBoolO, e_mtTO, e_mInO, e_mNotInO, e_mGetO, e_mtYes, putD, List.getElem?_cons_zero, List.getElem?_cons_succ, List.set_cons_zero, List.set_cons_succ, List.map_cons, List.map_nil, List.length_cons, List.length_nil, List.cons_append, List.nil_append, List.append_nil, List.replicate, Nat.reduceAdd, Nat.reduceSub, Nat.reduceLeDiff, Nat.zero_add, true_and, and_true, reduceIte, Bool.false_eq_true, Bool.true_eq_false, Bool.not_true, Bool.not_false, w_mLst, w_mMake, w_miLst, w_gmUnl, w_mComp, compL_nil, w_compL, w_mSetF, w_addRR, wipeD]
  refine ⟨⟨by omega, by omega⟩, ?_⟩
  obtain ⟨e, he, e2⟩ := hn
  obtain ⟨g, hg, eg⟩ := List.getElem_of_mem he
  have sl := stp_len hz
  refine compL_ind (fun items acc S' => ∃ (c k : Nat) (ns : List Int), items = rangeD (c : Int) k ∧ (c : Int) + k = hc z ∧ acc = ns.map D.int ∧ acc.length ≤ c ∧ (ns ≠ [] ∨ c ≤ g) ∧ W n B ((i1, .lst (stpD z)) :: L) S') ?_ ?_ _ _ _ ⟨0, (hc z).toNat, [], rfl, by omega, rfl, Nat.le_refl _, .inr (Nat.zero_le _), w⟩
  · rintro acc S' ⟨c, k, ns, hi, hc', rfl, ha, hor, w⟩
    have k0 : k = 0 := by
      cases k with
      | zero => rfl
      | succ k => unfold rangeD at hi; cases hi
    have hne : ns ≠ [] := by
      rcases hor with h1 | h1
      · exact h1
      · exfalso; omega
    refine ⟨trivial, ?_⟩
    intro i2 S2 e1 e2
    replace w := w.new e1 e2
    refine ⟨Nat.zero_le _, ?_⟩
    intro i3 S3 e3 e4
    replace w := w.new e3 e4
    refine mEq_nil (ns := ns) w (by repeat (first | exact List.Mem.head _ | apply List.Mem.tail)) (by repeat (first | exact List.Mem.head _ | apply List.Mem.tail)) ?_
    cases ns with
    | nil => exact absurd rfl hne
    | cons n0 nr =>
      simp only [List.isEmpty_cons, e_mNext, e_mSeq, e_mExpr, e_mRet, e_mRetN, e_mIfS, e_mBreak, e_mCont, e_mAsg, e_mPar, e_gmName, e_gmNil, e_gmCons, e_gmTup, e_gmSub, e_mVar, e_mC, e_mOp, e_mtB, e_mtT, e_mtNot, e_mtAnd, e_mtOr, e_mAnd, e_mOr, e_mAndT, e_mOrT, e_mIf, e_mNotB, e_mChain, e_maNil, e_maCons, e_mTup, e_mCall, e_mFld, e_mProp, e_mMeth, e_mUnO, e_mBinO, e_mCallO, e_mCMeth, e_mRaise, e_mTry, e_mFn, e_mNeg, e_mIsiB, e_mIsiO, e_mFor, e_miRange1, e_miRange2, e_miTup, e_body, e_addII, e_addIB, e_addSS, e_addTT, e_subII, e_mulII, e_fdivII, e_modII, e_powII, e_ltII, e_leII, e_gtII, e_geII, e_is, e_isNot, e_ixT, e_ixS, e_ixD, e_inD, e_fLenS, e_fLenT, e_fMax2, e_fMin2, e_fAbs, e_fIntI, e_fIntB, e_fBoolI, e_fBoolB, e_mExcF, e_tryNil, e_tryCons, e_mBM, e_mEqO, e_mNeO, e_fLenO, e_fBoolO, e_mtTO, e_mInO, e_mNotInO, e_mGetO, e_mtYes, putD, List.getElem?_cons_zero, List.getElem?_cons_succ, List.set_cons_zero, List.set_cons_succ, List.map_cons, List.map_nil, List.length_cons, List.length_nil, List.cons_append, List.nil_append, List.append_nil, List.replicate, Nat.reduceAdd, Nat.reduceSub, Nat.reduceLeDiff, Nat.zero_add, true_and, and_true, reduceIte, Bool.false_eq_true, Bool.true_eq_false, Bool.not_true, Bool.not_false, w_mLst, w_mMake, w_miLst, w_gmUnl, w_mComp, compL_nil, w_compL, w_mSetF, w_addRR]
      exact h _ _ (w.sub fun _ _ m => .tail _ (.tail _ (.tail _ m)))
  · rintro d is acc S' ⟨c, k, ns, hi, hc', rfl, ha, hor, w⟩ ih
    cases k with
    | zero => unfold rangeD at hi; cases hi
    | succ k =>
      unfold rangeD at hi
      obtain ⟨rfl, rfl⟩ := List.cons.inj hi
      refine ⟨trivial, ?_⟩
      try simp only [e_mNext, e_mSeq, e_mExpr, e_mRet, e_mRetN, e_mIfS, e_mBreak, e_mCont, e_mAsg, e_mPar, e_gmName, e_gmNil, e_gmCons, e_gmTup, e_gmSub, e_mVar, e_mC, e_mOp, e_mtB, e_mtT, e_mtNot, e_mtAnd, e_mtOr, e_mAnd, e_mOr, e_mAndT, e_mOrT, e_mIf, e_mNotB, e_mChain, e_maNil, e_maCons, e_mTup, e_mCall, e_mFld, e_mProp, e_mMeth, e_mUnO, e_mBinO, e_mCallO, e_mCMeth, e_mRaise, e_mTry, e_mFn, e_mNeg, e_mIsiB, e_mIsiO, e_mFor, e_miRange1, e_miRange2, e_miTup, e_body, e_addII, e_addIB, e_addSS, e_addTT, e_subII, e_mulII, e_fdivII, e_modII, e_powII, e_ltII, e_leII, e_gtII, e_geII, e_is, e_isNot, e_ixT, e_ixS, e_ixD, e_inD, e_fLenS, e_fLenT, e_fMax2, e_fMin2, e_fAbs, e_fIntI, e_fIntB, e_fBoolI, e_fBoolB, e_mExcF, e_tryNil, e_tryCons, e_mBM, e_mEqO, e_mNeO, e_fLenO, e_fBoolO, e_mtTO, e_mInO, e_mNotInO, e_mGetO, e_mtYes, putD, List.getElem?_cons_zero, List.getElem?_cons_succ, List.set_cons_zero, List.set_cons_succ, List.map_cons, List.map_nil, List.length_cons, List.length_nil, List.cons_append, List.nil_append, List.append_nil, List.replicate, Nat.reduceAdd, Nat.reduceSub, Nat.reduceLeDiff, Nat.zero_add, true_and, and_true, reduceIte, Bool.false_eq_true, Bool.true_eq_false, Bool.not_true, Bool.not_false, w_mLst, w_mMake, w_miLst, w_gmUnl, w_mComp, compL_nil, w_compL, w_mSetF, w_addRR]
      refine next_w w hz (by omega) fun S2 e' ee w => ?_
      rw [mEq_pl]
      try simp only [e_mNext, e_mSeq, e_mExpr, e_mRet, e_mRetN, e_mIfS, e_mBreak, e_mCont, e_mAsg, e_mPar, e_gmName, e_gmNil, e_gmCons, e_gmTup, e_gmSub, e_mVar, e_mC, e_mOp, e_mtB, e_mtT, e_mtNot, e_mtAnd, e_mtOr, e_mAnd, e_mOr, e_mAndT, e_mOrT, e_mIf, e_mNotB, e_mChain, e_maNil, e_maCons, e_mTup, e_mCall, e_mFld, e_mProp, e_mMeth, e_mUnO, e_mBinO, e_mCallO, e_mCMeth, e_mRaise, e_mTry, e_mFn, e_mNeg, e_mIsiB, e_mIsiO, e_mFor, e_miRange1, e_miRange2, e_miTup, e_body, e_addII, e_addIB, e_addSS, e_addTT, e_subII, e_mulII, e_fdivII, e_modII, e_powII, e_ltII, e_leII, e_gtII, e_geII, e_is, e_isNot, e_ixT, e_ixS, e_ixD, e_inD, e_fLenS, e_fLenT, e_fMax2, e_fMin2, e_fAbs, e_fIntI, e_fIntB, e_fBoolI, e_fBoolB, e_mExcF, e_tryNil, e_tryCons, e_mBM, e_mEqO, e_mNeO, e_fLenO, e_fBoolO, e_mtTO, e_mInO, e_mNotInO, e_mGetO, e_mtYes, putD, List.getElem?_cons_zero, List.getElem?_cons_succ, List.set_cons_zero, List.set_cons_succ, List.map_cons, List.map_nil, List.length_cons, List.length_nil, List.cons_append, List.nil_append, List.append_nil, List.replicate, Nat.reduceAdd, Nat.reduceSub, Nat.reduceLeDiff, Nat.zero_add, true_and, and_true, reduceIte, Bool.false_eq_true, Bool.true_eq_false, Bool.not_true, Bool.not_false, w_mLst, w_mMake, w_miLst, w_gmUnl, w_mComp, compL_nil, w_compL, w_mSetF, w_addRR]
      have cm : (c : Int) % hc z = c := Int.emod_eq_of_lt (by omega) (by omega)
      rw [cm, Int.toNat_natCast] at ee
      cases eq : (p1.1 + e'.1 == p2.1 && p1.2 + e'.2 == p2.2) with
      | true =>
        simp only [e_mNext, e_mSeq, e_mExpr, e_mRet, e_mRetN, e_mIfS, e_mBreak, e_mCont, e_mAsg, e_mPar, e_gmName, e_gmNil, e_gmCons, e_gmTup, e_gmSub, e_mVar, e_mC, e_mOp, e_mtB, e_mtT, e_mtNot, e_mtAnd, e_mtOr, e_mAnd, e_mOr, e_mAndT, e_mOrT, e_mIf, e_mNotB, e_mChain, e_maNil, e_maCons, e_mTup, e_mCall, e_mFld, e_mProp, e_mMeth, e_mUnO, e_mBinO, e_mCallO, e_mCMeth, e_mRaise, e_mTry, e_mFn, e_mNeg, e_mIsiB, e_mIsiO, e_mFor, e_miRange1, e_miRange2, e_miTup, e_body, e_addII, e_addIB, e_addSS, e_addTT, e_subII, e_mulII, e_fdivII, e_modII, e_powII, e_ltII, e_leII, e_gtII, e_geII, e_is, e_isNot, e_ixT, e_ixS, e_ixD, e_inD, e_fLenS, e_fLenT, e_fMax2, e_fMin2, e_fAbs, e_fIntI, e_fIntB, e_fBoolI, e_fBoolB, e_mExcF, e_tryNil, e_tryCons, e_mBM, e_mEqO, e_mNeO, e_fLenO, e_fBoolO, e_mtTO, e_mInO, e_mNotInO, e_mGetO, e_mtYes, putD, List.getElem?_cons_zero, List.getElem?_cons_succ, List.set_cons_zero, List.set_cons_succ, List.map_cons, List.map_nil, List.length_cons, List.length_nil, List.cons_append, List.nil_append, List.append_nil, List.replicate, Nat.reduceAdd, Nat.reduceSub, Nat.reduceLeDiff, Nat.zero_add, true_and, and_true, reduceIte, Bool.false_eq_true, Bool.true_eq_false, Bool.not_true, Bool.not_false, w_mLst, w_mMake, w_miLst, w_gmUnl, w_mComp, compL_nil, w_compL, w_mSetF, w_addRR]
        refine ⟨?_, ih _ _ ⟨c + 1, k, ns ++ [(c : Int)], rfl, by omega, by simp, by simp at ha ⊢; omega, .inl (by simp), w⟩⟩
        have := sl_pos (n := 900) (by decide)
        omega
      | false =>
        simp only [e_mNext, e_mSeq, e_mExpr, e_mRet, e_mRetN, e_mIfS, e_mBreak, e_mCont, e_mAsg, e_mPar, e_gmName, e_gmNil, e_gmCons, e_gmTup, e_gmSub, e_mVar, e_mC, e_mOp, e_mtB, e_mtT, e_mtNot, e_mtAnd, e_mtOr, e_mAnd, e_mOr, e_mAndT, e_mOrT, e_mIf, e_mNotB, e_mChain, e_maNil, e_maCons, e_mTup, e_mCall, e_mFld, e_mProp, e_mMeth, e_mUnO, e_mBinO, e_mCallO, e_mCMeth, e_mRaise, e_mTry, e_mFn, e_mNeg, e_mIsiB, e_mIsiO, e_mFor, e_miRange1, e_miRange2, e_miTup, e_body, e_addII, e_addIB, e_addSS, e_addTT, e_subII, e_mulII, e_fdivII, e_modII, e_powII, e_ltII, e_leII, e_gtII, e_geII, e_is, e_isNot, e_ixT, e_ixS, e_ixD, e_inD, e_fLenS, e_fLenT, e_fMax2, e_fMin2, e_fAbs, e_fIntI, e_fIntB, e_fBoolI, e_fBoolB, e_mExcF, e_tryNil, e_tryCons, e_mBM, e_mEqO, e_mNeO, e_fLenO, e_fBoolO, e_mtTO, e_mInO, e_mNotInO, e_mGetO, e_mtYes, putD, List.getElem?_cons_zero, List.getElem?_cons_succ, List.set_cons_zero, List.set_cons_succ, List.map_cons, List.map_nil, List.length_cons, List.length_nil, List.cons_append, List.nil_append, List.append_nil, List.replicate, Nat.reduceAdd, Nat.reduceSub, Nat.reduceLeDiff, Nat.zero_add, true_and, and_true, reduceIte, Bool.false_eq_true, Bool.true_eq_false, Bool.not_true, Bool.not_false, w_mLst, w_mMake, w_miLst, w_gmUnl, w_mComp, compL_nil, w_compL, w_mSetF, w_addRR]
        refine ih _ _ ⟨c + 1, k, ns, rfl, by omega, rfl, by omega, ?_, w⟩
        rcases hor with h1 | h1
        · exact .inl h1
        · rcases Nat.lt_or_eq_of_le h1 with h2 | h2
          · exact .inr h2
          · exfalso
            subst h2
            rw [List.getElem?_eq_getElem hg, eg] at ee
            cases ee
            rw [e2] at eq
            simp at eq
theorem lin_diff (hz : Net z) {e : Int × Int} (he : e ∈ stp z) : ∃ e' ∈ stp z, a.at_ z (p.1 + e.1, p.2 + e.2) = ((a.at_ z p).1 + e'.1, (a.at_ z p).2 + e'.2) := by
  refine ⟨lin z a.t a.f e, lin_stp hz e he, ?_⟩
  unfold Sy.at_
  rw [lin_lin]
  apply Prod.ext <;> simp only <;> omega
theorem one3 (w : W n B L S) (mr : (r, .lst (pts a)) ∈ L) (ms : (sp, .lst ds) ∈ L) (mf : (jf, syo z a) ∈ L) (mb : (jb, syo z (a.inv z)) ∈ L) (hz : Net z) (ha : a.ok z) (hd : ∀ d ∈ ds, ∃ p, d = pD p) (h0 : 0 ≤ u) (h1 : u < (ds.length : Int))
    (h : ∀ S' e6 e7 e9, W n B L S' → md.nx [some (.str z), some (.ref r), some (.ref sp), some (.ref jf), some (.ref jb), some (.int u), e6, e7, c8, e9] S') :
    b__law_one_right_3 md [some (.str z), some (.ref r), some (.ref sp), some (.ref jf), some (.ref jb), some (.int u), c6, c7, c8, c9] S := by
  obtain ⟨p, ep⟩ := spot_at hd h0 h1
  have hi := Sy.ok_inv ha
  rw [e_b__law_one_right_3, e_b__law_one_right_2]
  simp only [e_mNext, e_mSeq, e_mExpr, e_mRet, e_mRetN, e_mIfS, e_mBreak, e_mCont, e_mAsg, e_mPar, e_gmName, e_gmNil, e_gmCons, e_gmTup, e_gmSub, e_mVar, e_mC, e_mOp, e_mtB, e_mtT, e_mtNot, e_mtAnd, e_mtOr, e_mAnd, e_mOr, e_mAndT, e_mOrT, e_mIf, e_mNotB, e_mChain, e_maNil, e_maCons, e_mTup, e_mCall, e_mFld, e_mProp, e_mMeth, e_mUnO, e_mBinO, e_mCallO, e_mCMeth, e_mRaise, e_mTry, e_mFn, e_mNeg, e_mIsiB, e_mIsiO, e_mFor, e_miRange1, e_miRange2, e_miTup, e_body, e_addII, e_addIB, e_addSS, e_addTT, e_subII, e_mulII, e_fdivII, e_modII, e_powII, e_ltII, e_leII, e_gtII, e_geII, e_is, e_isNot, e_ixT, e_ixS, e_ixD, e_inD, e_fLenS, e_fLenT, e_fMax2, e_fMin2, e_fAbs, e_fIntI, e_fIntB, e_fBoolI, e_fBoolB, e_mExcF, e_tryNil, e_tryCons, e_mBM, e_mEqO, e_mNeO, e_fLenO, e_fBoolO, e_mtTO, e_mInO, e_mNotInO, e_mGetO, e_mtYes, putD, List.getElem?_cons_zero, List.getElem?_cons_succ, List.set_cons_zero, List.set_cons_succ, List.map_cons, List.map_nil, List.length_cons, List.length_nil, List.cons_append, List.nil_append, List.append_nil, List.replicate, Nat.reduceAdd, Nat.reduceSub, Nat.reduceLeDiff, Nat.zero_add, true_and, and_true, reduceIte, Bool.false_eq_true, Bool.true_eq_false, Bool.not_true, Bool.not_false, w_mLst, w_mMake, w_miLst, w_gmUnl, w_mComp, compL_nil, w_compL, w_mSetF, w_addRR]
  refine insS_w w mf ?_
  refine ix_ok w ms ep ?_
  refine insS_w w mf (scall_core w mf hz ha ?_)
  try simp only [e_mNext, e_mSeq, e_mExpr, e_mRet, e_mRetN, e_mIfS, e_mBreak, e_mCont, e_mAsg, e_mPar, e_gmName, e_gmNil, e_gmCons, e_gmTup, e_gmSub, e_mVar, e_mC, e_mOp, e_mtB, e_mtT, e_mtNot, e_mtAnd, e_mtOr, e_mAnd, e_mOr, e_mAndT, e_mOrT, e_mIf, e_mNotB, e_mChain, e_maNil, e_maCons, e_mTup, e_mCall, e_mFld, e_mProp, e_mMeth, e_mUnO, e_mBinO, e_mCallO, e_mCMeth, e_mRaise, e_mTry, e_mFn, e_mNeg, e_mIsiB, e_mIsiO, e_mFor, e_miRange1, e_miRange2, e_miTup, e_body, e_addII, e_addIB, e_addSS, e_addTT, e_subII, e_mulII, e_fdivII, e_modII, e_powII, e_ltII, e_leII, e_gtII, e_geII, e_is, e_isNot, e_ixT, e_ixS, e_ixD, e_inD, e_fLenS, e_fLenT, e_fMax2, e_fMin2, e_fAbs, e_fIntI, e_fIntB, e_fBoolI, e_fBoolB, e_mExcF, e_tryNil, e_tryCons, e_mBM, e_mEqO, e_mNeO, e_fLenO, e_fBoolO, e_mtTO, e_mInO, e_mNotInO, e_mGetO, e_mtYes, putD, List.getElem?_cons_zero, List.getElem?_cons_succ, List.set_cons_zero, List.set_cons_succ, List.map_cons, List.map_nil, List.length_cons, List.length_nil, List.cons_append, List.nil_append, List.append_nil, List.replicate, Nat.reduceAdd, Nat.reduceSub, Nat.reduceLeDiff, Nat.zero_add, true_and, and_true, reduceIte, Bool.false_eq_true, Bool.true_eq_false, Bool.not_true, Bool.not_false, w_mLst, w_mMake, w_miLst, w_gmUnl, w_mComp, compL_nil, w_compL, w_mSetF, w_addRR]
  refine ix_ok w ms ep ?_
  try simp only [e_mNext, e_mSeq, e_mExpr, e_mRet, e_mRetN, e_mIfS, e_mBreak, e_mCont, e_mAsg, e_mPar, e_gmName, e_gmNil, e_gmCons, e_gmTup, e_gmSub, e_mVar, e_mC, e_mOp, e_mtB, e_mtT, e_mtNot, e_mtAnd, e_mtOr, e_mAnd, e_mOr, e_mAndT, e_mOrT, e_mIf, e_mNotB, e_mChain, e_maNil, e_maCons, e_mTup, e_mCall, e_mFld, e_mProp, e_mMeth, e_mUnO, e_mBinO, e_mCallO, e_mCMeth, e_mRaise, e_mTry, e_mFn, e_mNeg, e_mIsiB, e_mIsiO, e_mFor, e_miRange1, e_miRange2, e_miTup, e_body, e_addII, e_addIB, e_addSS, e_addTT, e_subII, e_mulII, e_fdivII, e_modII, e_powII, e_ltII, e_leII, e_gtII, e_geII, e_is, e_isNot, e_ixT, e_ixS, e_ixD, e_inD, e_fLenS, e_fLenT, e_fMax2, e_fMin2, e_fAbs, e_fIntI, e_fIntB, e_fBoolI, e_fBoolB, e_mExcF, e_tryNil, e_tryCons, e_mBM, e_mEqO, e_mNeO, e_fLenO, e_fBoolO, e_mtTO, e_mInO, e_mNotInO, e_mGetO, e_mtYes, putD, List.getElem?_cons_zero, List.getElem?_cons_succ, List.set_cons_zero, List.set_cons_succ, List.map_cons, List.map_nil, List.length_cons, List.length_nil, List.cons_append, List.nil_append, List.append_nil, List.replicate, Nat.reduceAdd, Nat.reduceSub, Nat.reduceLeDiff, Nat.zero_add, true_and, and_true, reduceIte, Bool.false_eq_true, Bool.true_eq_false, Bool.not_true, Bool.not_false, w_mLst, w_mMake, w_miLst, w_gmUnl, w_mComp, compL_nil, w_compL, w_mSetF, w_addRR]
  refine taken_w w mr hz ha fun S1 w => ?_
  rw [mNe_pl]
  try simp only [e_mNext, e_mSeq, e_mExpr, e_mRet, e_mRetN, e_mIfS, e_mBreak, e_mCont, e_mAsg, e_mPar, e_gmName, e_gmNil, e_gmCons, e_gmTup, e_gmSub, e_mVar, e_mC, e_mOp, e_mtB, e_mtT, e_mtNot, e_mtAnd, e_mtOr, e_mAnd, e_mOr, e_mAndT, e_mOrT, e_mIf, e_mNotB, e_mChain, e_maNil, e_maCons, e_mTup, e_mCall, e_mFld, e_mProp, e_mMeth, e_mUnO, e_mBinO, e_mCallO, e_mCMeth, e_mRaise, e_mTry, e_mFn, e_mNeg, e_mIsiB, e_mIsiO, e_mFor, e_miRange1, e_miRange2, e_miTup, e_body, e_addII, e_addIB, e_addSS, e_addTT, e_subII, e_mulII, e_fdivII, e_modII, e_powII, e_ltII, e_leII, e_gtII, e_geII, e_is, e_isNot, e_ixT, e_ixS, e_ixD, e_inD, e_fLenS, e_fLenT, e_fMax2, e_fMin2, e_fAbs, e_fIntI, e_fIntB, e_fBoolI, e_fBoolB, e_mExcF, e_tryNil, e_tryCons, e_mBM, e_mEqO, e_mNeO, e_fLenO, e_fBoolO, e_mtTO, e_mInO, e_mNotInO, e_mGetO, e_mtYes, putD, List.getElem?_cons_zero, List.getElem?_cons_succ, List.set_cons_zero, List.set_cons_succ, List.map_cons, List.map_nil, List.length_cons, List.length_nil, List.cons_append, List.nil_append, List.append_nil, List.replicate, Nat.reduceAdd, Nat.reduceSub, Nat.reduceLeDiff, Nat.zero_add, true_and, and_true, reduceIte, Bool.false_eq_true, Bool.true_eq_false, Bool.not_true, Bool.not_false, w_mLst, w_mMake, w_miLst, w_gmUnl, w_mComp, compL_nil, w_compL, w_mSetF, w_addRR]
  refine insS_w w mb ?_
  refine insS_w w mf ?_
  refine ix_ok w ms ep ?_
  refine insS_w w mf (scall_core w mf hz ha ?_)
  refine insS_w w mb (scall_core w mb hz hi ?_)
  try simp only [e_mNext, e_mSeq, e_mExpr, e_mRet, e_mRetN, e_mIfS, e_mBreak, e_mCont, e_mAsg, e_mPar, e_gmName, e_gmNil, e_gmCons, e_gmTup, e_gmSub, e_mVar, e_mC, e_mOp, e_mtB, e_mtT, e_mtNot, e_mtAnd, e_mtOr, e_mAnd, e_mOr, e_mAndT, e_mOrT, e_mIf, e_mNotB, e_mChain, e_maNil, e_maCons, e_mTup, e_mCall, e_mFld, e_mProp, e_mMeth, e_mUnO, e_mBinO, e_mCallO, e_mCMeth, e_mRaise, e_mTry, e_mFn, e_mNeg, e_mIsiB, e_mIsiO, e_mFor, e_miRange1, e_miRange2, e_miTup, e_body, e_addII, e_addIB, e_addSS, e_addTT, e_subII, e_mulII, e_fdivII, e_modII, e_powII, e_ltII, e_leII, e_gtII, e_geII, e_is, e_isNot, e_ixT, e_ixS, e_ixD, e_inD, e_fLenS, e_fLenT, e_fMax2, e_fMin2, e_fAbs, e_fIntI, e_fIntB, e_fBoolI, e_fBoolB, e_mExcF, e_tryNil, e_tryCons, e_mBM, e_mEqO, e_mNeO, e_fLenO, e_fBoolO, e_mtTO, e_mInO, e_mNotInO, e_mGetO, e_mtYes, putD, List.getElem?_cons_zero, List.getElem?_cons_succ, List.set_cons_zero, List.set_cons_succ, List.map_cons, List.map_nil, List.length_cons, List.length_nil, List.cons_append, List.nil_append, List.append_nil, List.replicate, Nat.reduceAdd, Nat.reduceSub, Nat.reduceLeDiff, Nat.zero_add, true_and, and_true, reduceIte, Bool.false_eq_true, Bool.true_eq_false, Bool.not_true, Bool.not_false, w_mLst, w_mMake, w_miLst, w_gmUnl, w_mComp, compL_nil, w_compL, w_mSetF, w_addRR]
  refine ix_ok w ms ep ?_
  rw [Sy.back hz, mNe_pl]
  try simp only [e_mNext, e_mSeq, e_mExpr, e_mRet, e_mRetN, e_mIfS, e_mBreak, e_mCont, e_mAsg, e_mPar, e_gmName, e_gmNil, e_gmCons, e_gmTup, e_gmSub, e_mVar, e_mC, e_mOp, e_mtB, e_mtT, e_mtNot, e_mtAnd, e_mtOr, e_mAnd, e_mOr, e_mAndT, e_mOrT, e_mIf, e_mNotB, e_mChain, e_maNil, e_maCons, e_mTup, e_mCall, e_mFld, e_mProp, e_mMeth, e_mUnO, e_mBinO, e_mCallO, e_mCMeth, e_mRaise, e_mTry, e_mFn, e_mNeg, e_mIsiB, e_mIsiO, e_mFor, e_miRange1, e_miRange2, e_miTup, e_body, e_addII, e_addIB, e_addSS, e_addTT, e_subII, e_mulII, e_fdivII, e_modII, e_powII, e_ltII, e_leII, e_gtII, e_geII, e_is, e_isNot, e_ixT, e_ixS, e_ixD, e_inD, e_fLenS, e_fLenT, e_fMax2, e_fMin2, e_fAbs, e_fIntI, e_fIntB, e_fBoolI, e_fBoolB, e_mExcF, e_tryNil, e_tryCons, e_mBM, e_mEqO, e_mNeO, e_fLenO, e_fBoolO, e_mtTO, e_mInO, e_mNotInO, e_mGetO, e_mtYes, putD, List.getElem?_cons_zero, List.getElem?_cons_succ, List.set_cons_zero, List.set_cons_succ, List.map_cons, List.map_nil, List.length_cons, List.length_nil, List.cons_append, List.nil_append, List.append_nil, List.replicate, Nat.reduceAdd, Nat.reduceSub, Nat.reduceLeDiff, Nat.zero_add, true_and, and_true, reduceIte, Bool.false_eq_true, Bool.true_eq_false, Bool.not_true, Bool.not_false, w_mLst, w_mMake, w_miLst, w_gmUnl, w_mComp, compL_nil, w_compL, w_mSetF, w_addRR]
  refine insS_w w mf ?_
  refine ix_ok w ms ep ?_
  refine insS_w w mf (scall_core w mf hz ha ?_)
  try simp only [e_mNext, e_mSeq, e_mExpr, e_mRet, e_mRetN, e_mIfS, e_mBreak, e_mCont, e_mAsg, e_mPar, e_gmName, e_gmNil, e_gmCons, e_gmTup, e_gmSub, e_mVar, e_mC, e_mOp, e_mtB, e_mtT, e_mtNot, e_mtAnd, e_mtOr, e_mAnd, e_mOr, e_mAndT, e_mOrT, e_mIf, e_mNotB, e_mChain, e_maNil, e_maCons, e_mTup, e_mCall, e_mFld, e_mProp, e_mMeth, e_mUnO, e_mBinO, e_mCallO, e_mCMeth, e_mRaise, e_mTry, e_mFn, e_mNeg, e_mIsiB, e_mIsiO, e_mFor, e_miRange1, e_miRange2, e_miTup, e_body, e_addII, e_addIB, e_addSS, e_addTT, e_subII, e_mulII, e_fdivII, e_modII, e_powII, e_ltII, e_leII, e_gtII, e_geII, e_is, e_isNot, e_ixT, e_ixS, e_ixD, e_inD, e_fLenS, e_fLenT, e_fMax2, e_fMin2, e_fAbs, e_fIntI, e_fIntB, e_fBoolI, e_fBoolB, e_mExcF, e_tryNil, e_tryCons, e_mBM, e_mEqO, e_mNeO, e_fLenO, e_fBoolO, e_mtTO, e_mInO, e_mNotInO, e_mGetO, e_mtYes, putD, List.getElem?_cons_zero, List.getElem?_cons_succ, List.set_cons_zero, List.set_cons_succ, List.map_cons, List.map_nil, List.length_cons, List.length_nil, List.cons_append, List.nil_append, List.append_nil, List.replicate, Nat.reduceAdd, Nat.reduceSub, Nat.reduceLeDiff, Nat.zero_add, true_and, and_true, reduceIte, Bool.false_eq_true, Bool.true_eq_false, Bool.not_true, Bool.not_false, w_mLst, w_mMake, w_miLst, w_gmUnl, w_mComp, compL_nil, w_compL, w_mSetF, w_addRR]
  refine insS_w w mf ?_
  refine ix_ok w ms ep ?_
  try simp only [e_mNext, e_mSeq, e_mExpr, e_mRet, e_mRetN, e_mIfS, e_mBreak, e_mCont, e_mAsg, e_mPar, e_gmName, e_gmNil, e_gmCons, e_gmTup, e_gmSub, e_mVar, e_mC, e_mOp, e_mtB, e_mtT, e_mtNot, e_mtAnd, e_mtOr, e_mAnd, e_mOr, e_mAndT, e_mOrT, e_mIf, e_mNotB, e_mChain, e_maNil, e_maCons, e_mTup, e_mCall, e_mFld, e_mProp, e_mMeth, e_mUnO, e_mBinO, e_mCallO, e_mCMeth, e_mRaise, e_mTry, e_mFn, e_mNeg, e_mIsiB, e_mIsiO, e_mFor, e_miRange1, e_miRange2, e_miTup, e_body, e_addII, e_addIB, e_addSS, e_addTT, e_subII, e_mulII, e_fdivII, e_modII, e_powII, e_ltII, e_leII, e_gtII, e_geII, e_is, e_isNot, e_ixT, e_ixS, e_ixD, e_inD, e_fLenS, e_fLenT, e_fMax2, e_fMin2, e_fAbs, e_fIntI, e_fIntB, e_fBoolI, e_fBoolB, e_mExcF, e_tryNil, e_tryCons, e_mBM, e_mEqO, e_mNeO, e_fLenO, e_fBoolO, e_mtTO, e_mInO, e_mNotInO, e_mGetO, e_mtYes, putD, List.getElem?_cons_zero, List.getElem?_cons_succ, List.set_cons_zero, List.set_cons_succ, List.map_cons, List.map_nil, List.length_cons, List.length_nil, List.cons_append, List.nil_append, List.append_nil, List.replicate, Nat.reduceAdd, Nat.reduceSub, Nat.reduceLeDiff, Nat.zero_add, true_and, and_true, reduceIte, Bool.false_eq_true, Bool.true_eq_false, Bool.not_true, Bool.not_false, w_mLst, w_mMake, w_miLst, w_gmUnl, w_mComp, compL_nil, w_compL, w_mSetF, w_addRR]
  refine next_w w hz h0 fun S2 e ee w => ?_
  refine insS_w w mf (scall_core w mf hz ha ?_)
  try simp only [e_mNext, e_mSeq, e_mExpr, e_mRet, e_mRetN, e_mIfS, e_mBreak, e_mCont, e_mAsg, e_mPar, e_gmName, e_gmNil, e_gmCons, e_gmTup, e_gmSub, e_mVar, e_mC, e_mOp, e_mtB, e_mtT, e_mtNot, e_mtAnd, e_mtOr, e_mAnd, e_mOr, e_mAndT, e_mOrT, e_mIf, e_mNotB, e_mChain, e_maNil, e_maCons, e_mTup, e_mCall, e_mFld, e_mProp, e_mMeth, e_mUnO, e_mBinO, e_mCallO, e_mCMeth, e_mRaise, e_mTry, e_mFn, e_mNeg, e_mIsiB, e_mIsiO, e_mFor, e_miRange1, e_miRange2, e_miTup, e_body, e_addII, e_addIB, e_addSS, e_addTT, e_subII, e_mulII, e_fdivII, e_modII, e_powII, e_ltII, e_leII, e_gtII, e_geII, e_is, e_isNot, e_ixT, e_ixS, e_ixD, e_inD, e_fLenS, e_fLenT, e_fMax2, e_fMin2, e_fAbs, e_fIntI, e_fIntB, e_fBoolI, e_fBoolB, e_mExcF, e_tryNil, e_tryCons, e_mBM, e_mEqO, e_mNeO, e_fLenO, e_fBoolO, e_mtTO, e_mInO, e_mNotInO, e_mGetO, e_mtYes, putD, List.getElem?_cons_zero, List.getElem?_cons_succ, List.set_cons_zero, List.set_cons_succ, List.map_cons, List.map_nil, List.length_cons, List.length_nil, List.cons_append, List.nil_append, List.append_nil, List.replicate, Nat.reduceAdd, Nat.reduceSub, Nat.reduceLeDiff, Nat.zero_add, true_and, and_true, reduceIte, Bool.false_eq_true, Bool.true_eq_false, Bool.not_true, Bool.not_false, w_mLst, w_mMake, w_miLst, w_gmUnl, w_mComp, compL_nil, w_compL, w_mSetF, w_addRR]
  refine ⟨(sl_pos (by simp)), ?_⟩
  refine one1 w hz (lin_diff hz (List.mem_of_getElem? ee)) fun S' e9 w => h S' _ _ e9 w
def noteP (z : Str) (a : Sy) : PyData := .list (.str z :: ptsP a)
theorem tr_note (h : S[j]? = some (.lst (.str z :: pts a))) : tree 9 S (.ref j) = some (noteP z a) := by
  simp only [tr_lst h, tr_int, tr_str, tr_bl, tr_non, tr_tup, trL_cons, trL_nil, Option.map_some, noteP, ptsP]
theorem sh_note (hz : Net z) : SeqAt.shaped (noteP z a) = true := by
  simp [noteP, ptsP, SeqAt.shaped, PyData.canLay0, PyData.canLayAll0, PyData.depth, PyData.depthAll, strOk_net hz]
theorem eqv_note : PyData.eqv (noteP z a) (noteP z a) = true := by simp [noteP, ptsP, PyData.eqv, PyData.eqvAll]
theorem one_right_w (w : W n B L S) (mr : (r, .lst (pts a)) ∈ L) (ms : (sp, .lst ds) ∈ L) (hz : Net z) (ha : a.ok z) (hd : ∀ d ∈ ds, ∃ p, d = pD p) (hl : ds.length ≤ 900) (h : ∀ S', W n B L S' → q (.bl true) S') : u__law_one_right [.str z, .ref r, .ref sp] S q x := by
  have hi := Sy.ok_inv ha
  rw [e_u__law_one_right, e_b__law_one_right, e_b__law_one_right_8, e_b__law_one_right_7, e_b__law_one_right_6, e_b__law_one_right_5]
  simp only [e_mNext, e_mSeq, e_mExpr, e_mRet, e_mRetN, e_mIfS, e_mBreak, e_mCont, e_mAsg, e_mPar, e_gmName, e_gmNil, e_gmCons, e_gmTup, e_gmSub, e_mVar, e_mC, e_mOp, e_mtB, e_mtT, e_mtNot, e_mtAnd, e_mtOr, e_mAnd, e_mOr, e_mAndT, e_mOrT, e_mIf, e_mNotB, e_mChain, e_maNil, e_maCons, e_mTup, e_mCall, e_mFld, e_mProp, e_mMeth, e_mUnO, e_mBinO, e_mCallO, e_mCMeth, e_mRaise, e_mTry, e_mFn, e_mNeg, e_mIsiB, e_mIsiO, e_mFor, e_miRange1, e_miRange2, e_miTup, e_body, e_addII, e_addIB, e_addSS, e_addTT, e_subII, e_mulII, e_fdivII, e_modII, e_powII, e_ltII, e_leII, e_gtII, e_geII, e_is, e_isNot, e_ixT, e_ixS, e_ixD, e_inD, e_fLenS, e_fLenT, e_fMax2, e_fMin2, e_fAbs, e_fIntI, e_fIntB, e_fBoolI, e_fBoolB, e_mExcF, e_tryNil, e_tryCons, e_mBM, e_mEqO, e_mNeO, e_fLenO, e_fBoolO, e_mtTO, e_mInO, e_mNotInO, e_mGetO, e_mtYes, putD, List.getElem?_cons_zero, List.getElem?_cons_succ, List.set_cons_zero, List.set_cons_succ, List.map_cons, List.map_nil, List.length_cons, List.length_nil, List.cons_append, List.nil_append, List.append_nil, List.replicate, Nat.reduceAdd, Nat.reduceSub, Nat.reduceLeDiff, Nat.zero_add, true_and, and_true, reduceIte, Bool.false_eq_true, Bool.true_eq_false, Bool.not_true, Bool.not_false, w_mLst, w_mMake, w_miLst, w_gmUnl, w_mComp, compL_nil, w_compL, w_mSetF, w_addRR]
  refine made_w w mr hz ha fun jf S1 w => ?_
  try simp only [e_mNext, e_mSeq, e_mExpr, e_mRet, e_mRetN, e_mIfS, e_mBreak, e_mCont, e_mAsg, e_mPar, e_gmName, e_gmNil, e_gmCons, e_gmTup, e_gmSub, e_mVar, e_mC, e_mOp, e_mtB, e_mtT, e_mtNot, e_mtAnd, e_mtOr, e_mAnd, e_mOr, e_mAndT, e_mOrT, e_mIf, e_mNotB, e_mChain, e_maNil, e_maCons, e_mTup, e_mCall, e_mFld, e_mProp, e_mMeth, e_mUnO, e_mBinO, e_mCallO, e_mCMeth, e_mRaise, e_mTry, e_mFn, e_mNeg, e_mIsiB, e_mIsiO, e_mFor, e_miRange1, e_miRange2, e_miTup, e_body, e_addII, e_addIB, e_addSS, e_addTT, e_subII, e_mulII, e_fdivII, e_modII, e_powII, e_ltII, e_leII, e_gtII, e_geII, e_is, e_isNot, e_ixT, e_ixS, e_ixD, e_inD, e_fLenS, e_fLenT, e_fMax2, e_fMin2, e_fAbs, e_fIntI, e_fIntB, e_fBoolI, e_fBoolB, e_mExcF, e_tryNil, e_tryCons, e_mBM, e_mEqO, e_mNeO, e_fLenO, e_fBoolO, e_mtTO, e_mInO, e_mNotInO, e_mGetO, e_mtYes, putD, List.getElem?_cons_zero, List.getElem?_cons_succ, List.set_cons_zero, List.set_cons_succ, List.map_cons, List.map_nil, List.length_cons, List.length_nil, List.cons_append, List.nil_append, List.append_nil, List.replicate, Nat.reduceAdd, Nat.reduceSub, Nat.reduceLeDiff, Nat.zero_add, true_and, and_true, reduceIte, Bool.false_eq_true, Bool.true_eq_false, Bool.not_true, Bool.not_false, w_mLst, w_mMake, w_miLst, w_gmUnl, w_mComp, compL_nil, w_compL, w_mSetF, w_addRR]
  refine snet_w w (by repeat (first | exact List.Mem.head _ | apply List.Mem.tail)) ?_
  refine splace_w w (by repeat (first | exact List.Mem.head _ | apply List.Mem.tail)) ?_
  refine sturn_w w (by repeat (first | exact List.Mem.head _ | apply List.Mem.tail)) ?_
  refine smir_w w (by repeat (first | exact List.Mem.head _ | apply List.Mem.tail)) ?_
  try simp only [e_mNext, e_mSeq, e_mExpr, e_mRet, e_mRetN, e_mIfS, e_mBreak, e_mCont, e_mAsg, e_mPar, e_gmName, e_gmNil, e_gmCons, e_gmTup, e_gmSub, e_mVar, e_mC, e_mOp, e_mtB, e_mtT, e_mtNot, e_mtAnd, e_mtOr, e_mAnd, e_mOr, e_mAndT, e_mOrT, e_mIf, e_mNotB, e_mChain, e_maNil, e_maCons, e_mTup, e_mCall, e_mFld, e_mProp, e_mMeth, e_mUnO, e_mBinO, e_mCallO, e_mCMeth, e_mRaise, e_mTry, e_mFn, e_mNeg, e_mIsiB, e_mIsiO, e_mFor, e_miRange1, e_miRange2, e_miTup, e_body, e_addII, e_addIB, e_addSS, e_addTT, e_subII, e_mulII, e_fdivII, e_modII, e_powII, e_ltII, e_leII, e_gtII, e_geII, e_is, e_isNot, e_ixT, e_ixS, e_ixD, e_inD, e_fLenS, e_fLenT, e_fMax2, e_fMin2, e_fAbs, e_fIntI, e_fIntB, e_fBoolI, e_fBoolB, e_mExcF, e_tryNil, e_tryCons, e_mBM, e_mEqO, e_mNeO, e_fLenO, e_fBoolO, e_mtTO, e_mInO, e_mNotInO, e_mGetO, e_mtYes, putD, List.getElem?_cons_zero, List.getElem?_cons_succ, List.set_cons_zero, List.set_cons_succ, List.map_cons, List.map_nil, List.length_cons, List.length_nil, List.cons_append, List.nil_append, List.append_nil, List.replicate, Nat.reduceAdd, Nat.reduceSub, Nat.reduceLeDiff, Nat.zero_add, true_and, and_true, reduceIte, Bool.false_eq_true, Bool.true_eq_false, Bool.not_true, Bool.not_false, w_mLst, w_mMake, w_miLst, w_gmUnl, w_mComp, compL_nil, w_compL, w_mSetF, w_addRR]
  refine ⟨(sl_pos (by simp)), ?_⟩
  intro i1 S2 e1 e2
  replace w := w.new e1 e2
  refine ⟨(sl_pos (by simp)), ?_⟩
  intro i2 S3 e1 e2
  replace w := w.new e1 e2
  refine addR_ok w (ds := [.str z]) (xs := pts a) (by repeat (first | exact List.Mem.head _ | apply List.Mem.tail)) (.tail _ (.tail _ (.tail _ mr))) (by simp) fun i3 S4 w => ?_
  refine mNe_of (a := noteP z a) (b := noteP z a) (tr_note (w.get (by repeat (first | exact List.Mem.head _ | apply List.Mem.tail)))) (tr_note (w.get (.head _))) (sh_note hz) (sh_note hz) ?_
  simp only [eqv_note, Bool.not_true, e_mNext, e_mSeq, e_mExpr, e_mRet, e_mRetN, e_mIfS, e_mBreak, e_mCont, e_mAsg, e_mPar, e_gmName, e_gmNil, e_gmCons, e_gmTup, e_gmSub, e_mVar, e_mC, e_mOp, e_mtB, e_mtT, e_mtNot, e_mtAnd, e_mtOr, e_mAnd, e_mOr, e_mAndT, e_mOrT, e_mIf, e_mNotB, e_mChain, e_maNil, e_maCons, e_mTup, e_mCall, e_mFld, e_mProp, e_mMeth, e_mUnO, e_mBinO, e_mCallO, e_mCMeth, e_mRaise, e_mTry, e_mFn, e_mNeg, e_mIsiB, e_mIsiO, e_mFor, e_miRange1, e_miRange2, e_miTup, e_body, e_addII, e_addIB, e_addSS, e_addTT, e_subII, e_mulII, e_fdivII, e_modII, e_powII, e_ltII, e_leII, e_gtII, e_geII, e_is, e_isNot, e_ixT, e_ixS, e_ixD, e_inD, e_fLenS, e_fLenT, e_fMax2, e_fMin2, e_fAbs, e_fIntI, e_fIntB, e_fBoolI, e_fBoolB, e_mExcF, e_tryNil, e_tryCons, e_mBM, e_mEqO, e_mNeO, e_fLenO, e_fBoolO, e_mtTO, e_mInO, e_mNotInO, e_mGetO, e_mtYes, putD, List.getElem?_cons_zero, List.getElem?_cons_succ, List.set_cons_zero, List.set_cons_succ, List.map_cons, List.map_nil, List.length_cons, List.length_nil, List.cons_append, List.nil_append, List.append_nil, List.replicate, Nat.reduceAdd, Nat.reduceSub, Nat.reduceLeDiff, Nat.zero_add, true_and, and_true, reduceIte, Bool.false_eq_true, Bool.true_eq_false, Bool.not_true, Bool.not_false, w_mLst, w_mMake, w_miLst, w_gmUnl, w_mComp, compL_nil, w_compL, w_mSetF, w_addRR]
  replace w := W.sub (L' := (jf, syo z a) :: L) w fun _ _ m => .tail _ (.tail _ (.tail _ m))
  refine sboolO_w w (by repeat (first | exact List.Mem.head _ | apply List.Mem.tail)) ?_
  try simp only [e_mNext, e_mSeq, e_mExpr, e_mRet, e_mRetN, e_mIfS, e_mBreak, e_mCont, e_mAsg, e_mPar, e_gmName, e_gmNil, e_gmCons, e_gmTup, e_gmSub, e_mVar, e_mC, e_mOp, e_mtB, e_mtT, e_mtNot, e_mtAnd, e_mtOr, e_mAnd, e_mOr, e_mAndT, e_mOrT, e_mIf, e_mNotB, e_mChain, e_maNil, e_maCons, e_mTup, e_mCall, e_mFld, e_mProp, e_mMeth, e_mUnO, e_mBinO, e_mCallO, e_mCMeth, e_mRaise, e_mTry, e_mFn, e_mNeg, e_mIsiB, e_mIsiO, e_mFor, e_miRange1, e_miRange2, e_miTup, e_body, e_addII, e_addIB, e_addSS, e_addTT, e_subII, e_mulII, e_fdivII, e_modII, e_powII, e_ltII, e_leII, e_gtII, e_geII, e_is, e_isNot, e_ixT, e_ixS, e_ixD, e_inD, e_fLenS, e_fLenT, e_fMax2, e_fMin2, e_fAbs, e_fIntI, e_fIntB, e_fBoolI, e_fBoolB, e_mExcF, e_tryNil, e_tryCons, e_mBM, e_mEqO, e_mNeO, e_fLenO, e_fBoolO, e_mtTO, e_mInO, e_mNotInO, e_mGetO, e_mtYes, putD, List.getElem?_cons_zero, List.getElem?_cons_succ, List.set_cons_zero, List.set_cons_succ, List.map_cons, List.map_nil, List.length_cons, List.length_nil, List.cons_append, List.nil_append, List.append_nil, List.replicate, Nat.reduceAdd, Nat.reduceSub, Nat.reduceLeDiff, Nat.zero_add, true_and, and_true, reduceIte, Bool.false_eq_true, Bool.true_eq_false, Bool.not_true, Bool.not_false, w_mLst, w_mMake, w_miLst, w_gmUnl, w_mComp, compL_nil, w_compL, w_mSetF, w_addRR]
  refine ⟨(sl_pos (by simp)), (sl_pos (by simp)), ?_⟩
  intro i4 S5 e1 e2
  replace w := w.new e1 e2
  refine mNe_of (a := .list (ptsP a)) (b := .list (ptsP .one)) (tr_pts (k := 0) (w.get (.tail _ (.tail _ mr)))) (tr_pts (k := 0) (w.get (.head _))) sh_pts sh_pts ?_
  rw [eqv_pts, mNe_bl]
  have eb : ((!a.beq .one) != (!a.beq .one)) = false := by simp
  simp only [eb, e_mNext, e_mSeq, e_mExpr, e_mRet, e_mRetN, e_mIfS, e_mBreak, e_mCont, e_mAsg, e_mPar, e_gmName, e_gmNil, e_gmCons, e_gmTup, e_gmSub, e_mVar, e_mC, e_mOp, e_mtB, e_mtT, e_mtNot, e_mtAnd, e_mtOr, e_mAnd, e_mOr, e_mAndT, e_mOrT, e_mIf, e_mNotB, e_mChain, e_maNil, e_maCons, e_mTup, e_mCall, e_mFld, e_mProp, e_mMeth, e_mUnO, e_mBinO, e_mCallO, e_mCMeth, e_mRaise, e_mTry, e_mFn, e_mNeg, e_mIsiB, e_mIsiO, e_mFor, e_miRange1, e_miRange2, e_miTup, e_body, e_addII, e_addIB, e_addSS, e_addTT, e_subII, e_mulII, e_fdivII, e_modII, e_powII, e_ltII, e_leII, e_gtII, e_geII, e_is, e_isNot, e_ixT, e_ixS, e_ixD, e_inD, e_fLenS, e_fLenT, e_fMax2, e_fMin2, e_fAbs, e_fIntI, e_fIntB, e_fBoolI, e_fBoolB, e_mExcF, e_tryNil, e_tryCons, e_mBM, e_mEqO, e_mNeO, e_fLenO, e_fBoolO, e_mtTO, e_mInO, e_mNotInO, e_mGetO, e_mtYes, putD, List.getElem?_cons_zero, List.getElem?_cons_succ, List.set_cons_zero, List.set_cons_succ, List.map_cons, List.map_nil, List.length_cons, List.length_nil, List.cons_append, List.nil_append, List.append_nil, List.replicate, Nat.reduceAdd, Nat.reduceSub, Nat.reduceLeDiff, Nat.zero_add, true_and, and_true, reduceIte, Bool.false_eq_true, Bool.true_eq_false, Bool.not_true, Bool.not_false, w_mLst, w_mMake, w_miLst, w_gmUnl, w_mComp, compL_nil, w_compL, w_mSetF, w_addRR]
  refine sinv_w w (by repeat (first | exact List.Mem.head _ | apply List.Mem.tail)) hz ha fun jb S6 w => ?_
  try simp only [e_mNext, e_mSeq, e_mExpr, e_mRet, e_mRetN, e_mIfS, e_mBreak, e_mCont, e_mAsg, e_mPar, e_gmName, e_gmNil, e_gmCons, e_gmTup, e_gmSub, e_mVar, e_mC, e_mOp, e_mtB, e_mtT, e_mtNot, e_mtAnd, e_mtOr, e_mAnd, e_mOr, e_mAndT, e_mOrT, e_mIf, e_mNotB, e_mChain, e_maNil, e_maCons, e_mTup, e_mCall, e_mFld, e_mProp, e_mMeth, e_mUnO, e_mBinO, e_mCallO, e_mCMeth, e_mRaise, e_mTry, e_mFn, e_mNeg, e_mIsiB, e_mIsiO, e_mFor, e_miRange1, e_miRange2, e_miTup, e_body, e_addII, e_addIB, e_addSS, e_addTT, e_subII, e_mulII, e_fdivII, e_modII, e_powII, e_ltII, e_leII, e_gtII, e_geII, e_is, e_isNot, e_ixT, e_ixS, e_ixD, e_inD, e_fLenS, e_fLenT, e_fMax2, e_fMin2, e_fAbs, e_fIntI, e_fIntB, e_fBoolI, e_fBoolB, e_mExcF, e_tryNil, e_tryCons, e_mBM, e_mEqO, e_mNeO, e_fLenO, e_fBoolO, e_mtTO, e_mInO, e_mNotInO, e_mGetO, e_mtYes, putD, List.getElem?_cons_zero, List.getElem?_cons_succ, List.set_cons_zero, List.set_cons_succ, List.map_cons, List.map_nil, List.length_cons, List.length_nil, List.cons_append, List.nil_append, List.append_nil, List.replicate, Nat.reduceAdd, Nat.reduceSub, Nat.reduceLeDiff, Nat.zero_add, true_and, and_true, reduceIte, Bool.false_eq_true, Bool.true_eq_false, Bool.not_true, Bool.not_false, w_mLst, w_mMake, w_miLst, w_gmUnl, w_mComp, compL_nil, w_compL, w_mSetF, w_addRR]
  refine len_ok w (.tail _ (.tail _ (.tail _ ms))) ?_
  try simp only [e_mNext, e_mSeq, e_mExpr, e_mRet, e_mRetN, e_mIfS, e_mBreak, e_mCont, e_mAsg, e_mPar, e_gmName, e_gmNil, e_gmCons, e_gmTup, e_gmSub, e_mVar, e_mC, e_mOp, e_mtB, e_mtT, e_mtNot, e_mtAnd, e_mtOr, e_mAnd, e_mOr, e_mAndT, e_mOrT, e_mIf, e_mNotB, e_mChain, e_maNil, e_maCons, e_mTup, e_mCall, e_mFld, e_mProp, e_mMeth, e_mUnO, e_mBinO, e_mCallO, e_mCMeth, e_mRaise, e_mTry, e_mFn, e_mNeg, e_mIsiB, e_mIsiO, e_mFor, e_miRange1, e_miRange2, e_miTup, e_body, e_addII, e_addIB, e_addSS, e_addTT, e_subII, e_mulII, e_fdivII, e_modII, e_powII, e_ltII, e_leII, e_gtII, e_geII, e_is, e_isNot, e_ixT, e_ixS, e_ixD, e_inD, e_fLenS, e_fLenT, e_fMax2, e_fMin2, e_fAbs, e_fIntI, e_fIntB, e_fBoolI, e_fBoolB, e_mExcF, e_tryNil, e_tryCons, e_mBM, e_mEqO, e_mNeO, e_fLenO, e_fBoolO, e_mtTO, e_mInO, e_mNotInO, e_mGetO, e_mtYes, putD, List.getElem?_cons_zero, List.getElem?_cons_succ, List.set_cons_zero, List.set_cons_succ, List.map_cons, List.map_nil, List.length_cons, List.length_nil, List.cons_append, List.nil_append, List.append_nil, List.replicate, Nat.reduceAdd, Nat.reduceSub, Nat.reduceLeDiff, Nat.zero_add, true_and, and_true, reduceIte, Bool.false_eq_true, Bool.true_eq_false, Bool.not_true, Bool.not_false, w_mLst, w_mMake, w_miLst, w_gmUnl, w_mComp, compL_nil, w_compL, w_mSetF, w_addRR]
  refine ⟨⟨by omega, by omega⟩, ?_⟩
  replace w := W.sub (L' := (jb, syo z (a.inv z)) :: (jf, syo z a) :: L) w fun _ _ m => by
    rcases List.mem_cons.mp m with e | m
    · rw [e]; exact List.mem_cons_self ..
    · exact .tail _ (.tail _ m)
  refine forL_ind (fun items sd S' => ∃ (c k : Nat) (e5 e6 e7 e9 : Option D), items = rangeD (c : Int) k ∧ c + k = ds.length ∧ sd = [some (.str z), some (.ref r), some (.ref sp), some (.ref jf), some (.ref jb), e5, e6, e7, none, e9] ∧ W n B ((jb, syo z (a.inv z)) :: (jf, syo z a) :: L) S') ?_ ?_ _ _ _ ⟨0, ds.length, none, none, none, none, by simp, by simp, rfl, w⟩
  · rintro sd S' ⟨c, k, e5, e6, e7, e9, _, _, rfl, w⟩
    refine ⟨trivial, ?_⟩
    rw [e_b__law_one_right_4]
    simp only [e_mNext, e_mSeq, e_mExpr, e_mRet, e_mRetN, e_mIfS, e_mBreak, e_mCont, e_mAsg, e_mPar, e_gmName, e_gmNil, e_gmCons, e_gmTup, e_gmSub, e_mVar, e_mC, e_mOp, e_mtB, e_mtT, e_mtNot, e_mtAnd, e_mtOr, e_mAnd, e_mOr, e_mAndT, e_mOrT, e_mIf, e_mNotB, e_mChain, e_maNil, e_maCons, e_mTup, e_mCall, e_mFld, e_mProp, e_mMeth, e_mUnO, e_mBinO, e_mCallO, e_mCMeth, e_mRaise, e_mTry, e_mFn, e_mNeg, e_mIsiB, e_mIsiO, e_mFor, e_miRange1, e_miRange2, e_miTup, e_body, e_addII, e_addIB, e_addSS, e_addTT, e_subII, e_mulII, e_fdivII, e_modII, e_powII, e_ltII, e_leII, e_gtII, e_geII, e_is, e_isNot, e_ixT, e_ixS, e_ixD, e_inD, e_fLenS, e_fLenT, e_fMax2, e_fMin2, e_fAbs, e_fIntI, e_fIntB, e_fBoolI, e_fBoolB, e_mExcF, e_tryNil, e_tryCons, e_mBM, e_mEqO, e_mNeO, e_fLenO, e_fBoolO, e_mtTO, e_mInO, e_mNotInO, e_mGetO, e_mtYes, putD, List.getElem?_cons_zero, List.getElem?_cons_succ, List.set_cons_zero, List.set_cons_succ, List.map_cons, List.map_nil, List.length_cons, List.length_nil, List.cons_append, List.nil_append, List.append_nil, List.replicate, Nat.reduceAdd, Nat.reduceSub, Nat.reduceLeDiff, Nat.zero_add, true_and, and_true, reduceIte, Bool.false_eq_true, Bool.true_eq_false, Bool.not_true, Bool.not_false, w_mLst, w_mMake, w_miLst, w_gmUnl, w_mComp, compL_nil, w_compL, w_mSetF, w_addRR]
    refine ⟨(sl_pos (by simp)), ?_⟩
    intro j1 S7 ej eS
    refine syw (p := (0, 0)) w ej eS hz (Int.le_refl _) (hc_pos z) fun S8 w => ⟨rfl, ?_⟩
    have w : W n B ((j1, syo z .one) :: (jb, syo z (a.inv z)) :: (jf, syo z a) :: L) S8 := w
    try simp only [e_mNext, e_mSeq, e_mExpr, e_mRet, e_mRetN, e_mIfS, e_mBreak, e_mCont, e_mAsg, e_mPar, e_gmName, e_gmNil, e_gmCons, e_gmTup, e_gmSub, e_mVar, e_mC, e_mOp, e_mtB, e_mtT, e_mtNot, e_mtAnd, e_mtOr, e_mAnd, e_mOr, e_mAndT, e_mOrT, e_mIf, e_mNotB, e_mChain, e_maNil, e_maCons, e_mTup, e_mCall, e_mFld, e_mProp, e_mMeth, e_mUnO, e_mBinO, e_mCallO, e_mCMeth, e_mRaise, e_mTry, e_mFn, e_mNeg, e_mIsiB, e_mIsiO, e_mFor, e_miRange1, e_miRange2, e_miTup, e_body, e_addII, e_addIB, e_addSS, e_addTT, e_subII, e_mulII, e_fdivII, e_modII, e_powII, e_ltII, e_leII, e_gtII, e_geII, e_is, e_isNot, e_ixT, e_ixS, e_ixD, e_inD, e_fLenS, e_fLenT, e_fMax2, e_fMin2, e_fAbs, e_fIntI, e_fIntB, e_fBoolI, e_fBoolB, e_mExcF, e_tryNil, e_tryCons, e_mBM, e_mEqO, e_mNeO, e_fLenO, e_fBoolO, e_mtTO, e_mInO, e_mNotInO, e_mGetO, e_mtYes, putD, List.getElem?_cons_zero, List.getElem?_cons_succ, List.set_cons_zero, List.set_cons_succ, List.map_cons, List.map_nil, List.length_cons, List.length_nil, List.cons_append, List.nil_append, List.append_nil, List.replicate, Nat.reduceAdd, Nat.reduceSub, Nat.reduceLeDiff, Nat.zero_add, true_and, and_true, reduceIte, Bool.false_eq_true, Bool.true_eq_false, Bool.not_true, Bool.not_false, w_mLst, w_mMake, w_miLst, w_gmUnl, w_mComp, compL_nil, w_compL, w_mSetF, w_addRR]
    refine sinv_w w (a := a) (by repeat (first | exact List.Mem.head _ | apply List.Mem.tail)) hz ha fun j2 S9 w => ?_
    refine smul_w w (a := a) (b := a.inv z) (by repeat (first | exact List.Mem.head _ | apply List.Mem.tail)) (by repeat (first | exact List.Mem.head _ | apply List.Mem.tail)) hz ha hi fun j3 S10 w => ?_
    try simp only [e_mNext, e_mSeq, e_mExpr, e_mRet, e_mRetN, e_mIfS, e_mBreak, e_mCont, e_mAsg, e_mPar, e_gmName, e_gmNil, e_gmCons, e_gmTup, e_gmSub, e_mVar, e_mC, e_mOp, e_mtB, e_mtT, e_mtNot, e_mtAnd, e_mtOr, e_mAnd, e_mOr, e_mAndT, e_mOrT, e_mIf, e_mNotB, e_mChain, e_maNil, e_maCons, e_mTup, e_mCall, e_mFld, e_mProp, e_mMeth, e_mUnO, e_mBinO, e_mCallO, e_mCMeth, e_mRaise, e_mTry, e_mFn, e_mNeg, e_mIsiB, e_mIsiO, e_mFor, e_miRange1, e_miRange2, e_miTup, e_body, e_addII, e_addIB, e_addSS, e_addTT, e_subII, e_mulII, e_fdivII, e_modII, e_powII, e_ltII, e_leII, e_gtII, e_geII, e_is, e_isNot, e_ixT, e_ixS, e_ixD, e_inD, e_fLenS, e_fLenT, e_fMax2, e_fMin2, e_fAbs, e_fIntI, e_fIntB, e_fBoolI, e_fBoolB, e_mExcF, e_tryNil, e_tryCons, e_mBM, e_mEqO, e_mNeO, e_fLenO, e_fBoolO, e_mtTO, e_mInO, e_mNotInO, e_mGetO, e_mtYes, putD, List.getElem?_cons_zero, List.getElem?_cons_succ, List.set_cons_zero, List.set_cons_succ, List.map_cons, List.map_nil, List.length_cons, List.length_nil, List.cons_append, List.nil_append, List.append_nil, List.replicate, Nat.reduceAdd, Nat.reduceSub, Nat.reduceLeDiff, Nat.zero_add, true_and, and_true, reduceIte, Bool.false_eq_true, Bool.true_eq_false, Bool.not_true, Bool.not_false, w_mLst, w_mMake, w_miLst, w_gmUnl, w_mComp, compL_nil, w_compL, w_mSetF, w_addRR]
    refine seq_w w (a := a.mul z (a.inv z)) (b := .one) (by repeat (first | exact List.Mem.head _ | apply List.Mem.tail)) (by repeat (first | exact List.Mem.head _ | apply List.Mem.tail)) hz hz ?_
    rw [Sy.mul_inv hz, Sy.beq_refl]
    simp only [decide_true, Bool.true_and, e_mNext, e_mSeq, e_mExpr, e_mRet, e_mRetN, e_mIfS, e_mBreak, e_mCont, e_mAsg, e_mPar, e_gmName, e_gmNil, e_gmCons, e_gmTup, e_gmSub, e_mVar, e_mC, e_mOp, e_mtB, e_mtT, e_mtNot, e_mtAnd, e_mtOr, e_mAnd, e_mOr, e_mAndT, e_mOrT, e_mIf, e_mNotB, e_mChain, e_maNil, e_maCons, e_mTup, e_mCall, e_mFld, e_mProp, e_mMeth, e_mUnO, e_mBinO, e_mCallO, e_mCMeth, e_mRaise, e_mTry, e_mFn, e_mNeg, e_mIsiB, e_mIsiO, e_mFor, e_miRange1, e_miRange2, e_miTup, e_body, e_addII, e_addIB, e_addSS, e_addTT, e_subII, e_mulII, e_fdivII, e_modII, e_powII, e_ltII, e_leII, e_gtII, e_geII, e_is, e_isNot, e_ixT, e_ixS, e_ixD, e_inD, e_fLenS, e_fLenT, e_fMax2, e_fMin2, e_fAbs, e_fIntI, e_fIntB, e_fBoolI, e_fBoolB, e_mExcF, e_tryNil, e_tryCons, e_mBM, e_mEqO, e_mNeO, e_fLenO, e_fBoolO, e_mtTO, e_mInO, e_mNotInO, e_mGetO, e_mtYes, putD, List.getElem?_cons_zero, List.getElem?_cons_succ, List.set_cons_zero, List.set_cons_succ, List.map_cons, List.map_nil, List.length_cons, List.length_nil, List.cons_append, List.nil_append, List.append_nil, List.replicate, Nat.reduceAdd, Nat.reduceSub, Nat.reduceLeDiff, Nat.zero_add, true_and, and_true, reduceIte, Bool.false_eq_true, Bool.true_eq_false, Bool.not_true, Bool.not_false, w_mLst, w_mMake, w_miLst, w_gmUnl, w_mComp, compL_nil, w_compL, w_mSetF, w_addRR]
    refine sinv_w w (a := a) (by repeat (first | exact List.Mem.head _ | apply List.Mem.tail)) hz ha fun j4 S11 w => ?_
    refine smul_w w (a := a.inv z) (b := a) (.head _) (by repeat (first | exact List.Mem.head _ | apply List.Mem.tail)) hz hi ha fun j5 S12 w => ?_
    try simp only [e_mNext, e_mSeq, e_mExpr, e_mRet, e_mRetN, e_mIfS, e_mBreak, e_mCont, e_mAsg, e_mPar, e_gmName, e_gmNil, e_gmCons, e_gmTup, e_gmSub, e_mVar, e_mC, e_mOp, e_mtB, e_mtT, e_mtNot, e_mtAnd, e_mtOr, e_mAnd, e_mOr, e_mAndT, e_mOrT, e_mIf, e_mNotB, e_mChain, e_maNil, e_maCons, e_mTup, e_mCall, e_mFld, e_mProp, e_mMeth, e_mUnO, e_mBinO, e_mCallO, e_mCMeth, e_mRaise, e_mTry, e_mFn, e_mNeg, e_mIsiB, e_mIsiO, e_mFor, e_miRange1, e_miRange2, e_miTup, e_body, e_addII, e_addIB, e_addSS, e_addTT, e_subII, e_mulII, e_fdivII, e_modII, e_powII, e_ltII, e_leII, e_gtII, e_geII, e_is, e_isNot, e_ixT, e_ixS, e_ixD, e_inD, e_fLenS, e_fLenT, e_fMax2, e_fMin2, e_fAbs, e_fIntI, e_fIntB, e_fBoolI, e_fBoolB, e_mExcF, e_tryNil, e_tryCons, e_mBM, e_mEqO, e_mNeO, e_fLenO, e_fBoolO, e_mtTO, e_mInO, e_mNotInO, e_mGetO, e_mtYes, putD, List.getElem?_cons_zero, List.getElem?_cons_succ, List.set_cons_zero, List.set_cons_succ, List.map_cons, List.map_nil, List.length_cons, List.length_nil, List.cons_append, List.nil_append, List.append_nil, List.replicate, Nat.reduceAdd, Nat.reduceSub, Nat.reduceLeDiff, Nat.zero_add, true_and, and_true, reduceIte, Bool.false_eq_true, Bool.true_eq_false, Bool.not_true, Bool.not_false, w_mLst, w_mMake, w_miLst, w_gmUnl, w_mComp, compL_nil, w_compL, w_mSetF, w_addRR]
    refine seq_w w (a := (a.inv z).mul z a) (b := .one) (by repeat (first | exact List.Mem.head _ | apply List.Mem.tail)) (by repeat (first | exact List.Mem.head _ | apply List.Mem.tail)) hz hz ?_
    rw [Sy.inv_mul hz, Sy.beq_refl]
    simp only [decide_true, Bool.true_and, e_mNext, e_mSeq, e_mExpr, e_mRet, e_mRetN, e_mIfS, e_mBreak, e_mCont, e_mAsg, e_mPar, e_gmName, e_gmNil, e_gmCons, e_gmTup, e_gmSub, e_mVar, e_mC, e_mOp, e_mtB, e_mtT, e_mtNot, e_mtAnd, e_mtOr, e_mAnd, e_mOr, e_mAndT, e_mOrT, e_mIf, e_mNotB, e_mChain, e_maNil, e_maCons, e_mTup, e_mCall, e_mFld, e_mProp, e_mMeth, e_mUnO, e_mBinO, e_mCallO, e_mCMeth, e_mRaise, e_mTry, e_mFn, e_mNeg, e_mIsiB, e_mIsiO, e_mFor, e_miRange1, e_miRange2, e_miTup, e_body, e_addII, e_addIB, e_addSS, e_addTT, e_subII, e_mulII, e_fdivII, e_modII, e_powII, e_ltII, e_leII, e_gtII, e_geII, e_is, e_isNot, e_ixT, e_ixS, e_ixD, e_inD, e_fLenS, e_fLenT, e_fMax2, e_fMin2, e_fAbs, e_fIntI, e_fIntB, e_fBoolI, e_fBoolB, e_mExcF, e_tryNil, e_tryCons, e_mBM, e_mEqO, e_mNeO, e_fLenO, e_fBoolO, e_mtTO, e_mInO, e_mNotInO, e_mGetO, e_mtYes, putD, List.getElem?_cons_zero, List.getElem?_cons_succ, List.set_cons_zero, List.set_cons_succ, List.map_cons, List.map_nil, List.length_cons, List.length_nil, List.cons_append, List.nil_append, List.append_nil, List.replicate, Nat.reduceAdd, Nat.reduceSub, Nat.reduceLeDiff, Nat.zero_add, true_and, and_true, reduceIte, Bool.false_eq_true, Bool.true_eq_false, Bool.not_true, Bool.not_false, w_mLst, w_mMake, w_miLst, w_gmUnl, w_mComp, compL_nil, w_compL, w_mSetF, w_addRR]
    refine smul_w w (a := a) (b := .one) (by repeat (first | exact List.Mem.head _ | apply List.Mem.tail)) (by repeat (first | exact List.Mem.head _ | apply List.Mem.tail)) hz ha Sy.ok_one fun j6 S13 w => ?_
    try simp only [e_mNext, e_mSeq, e_mExpr, e_mRet, e_mRetN, e_mIfS, e_mBreak, e_mCont, e_mAsg, e_mPar, e_gmName, e_gmNil, e_gmCons, e_gmTup, e_gmSub, e_mVar, e_mC, e_mOp, e_mtB, e_mtT, e_mtNot, e_mtAnd, e_mtOr, e_mAnd, e_mOr, e_mAndT, e_mOrT, e_mIf, e_mNotB, e_mChain, e_maNil, e_maCons, e_mTup, e_mCall, e_mFld, e_mProp, e_mMeth, e_mUnO, e_mBinO, e_mCallO, e_mCMeth, e_mRaise, e_mTry, e_mFn, e_mNeg, e_mIsiB, e_mIsiO, e_mFor, e_miRange1, e_miRange2, e_miTup, e_body, e_addII, e_addIB, e_addSS, e_addTT, e_subII, e_mulII, e_fdivII, e_modII, e_powII, e_ltII, e_leII, e_gtII, e_geII, e_is, e_isNot, e_ixT, e_ixS, e_ixD, e_inD, e_fLenS, e_fLenT, e_fMax2, e_fMin2, e_fAbs, e_fIntI, e_fIntB, e_fBoolI, e_fBoolB, e_mExcF, e_tryNil, e_tryCons, e_mBM, e_mEqO, e_mNeO, e_fLenO, e_fBoolO, e_mtTO, e_mInO, e_mNotInO, e_mGetO, e_mtYes, putD, List.getElem?_cons_zero, List.getElem?_cons_succ, List.set_cons_zero, List.set_cons_succ, List.map_cons, List.map_nil, List.length_cons, List.length_nil, List.cons_append, List.nil_append, List.append_nil, List.replicate, Nat.reduceAdd, Nat.reduceSub, Nat.reduceLeDiff, Nat.zero_add, true_and, and_true, reduceIte, Bool.false_eq_true, Bool.true_eq_false, Bool.not_true, Bool.not_false, w_mLst, w_mMake, w_miLst, w_gmUnl, w_mComp, compL_nil, w_compL, w_mSetF, w_addRR]
    refine seq_w w (a := a.mul z .one) (b := a) (by repeat (first | exact List.Mem.head _ | apply List.Mem.tail)) (by repeat (first | exact List.Mem.head _ | apply List.Mem.tail)) hz hz ?_
    rw [Sy.mul_one ha, Sy.beq_refl]
    simp only [decide_true, Bool.true_and, e_mNext, e_mSeq, e_mExpr, e_mRet, e_mRetN, e_mIfS, e_mBreak, e_mCont, e_mAsg, e_mPar, e_gmName, e_gmNil, e_gmCons, e_gmTup, e_gmSub, e_mVar, e_mC, e_mOp, e_mtB, e_mtT, e_mtNot, e_mtAnd, e_mtOr, e_mAnd, e_mOr, e_mAndT, e_mOrT, e_mIf, e_mNotB, e_mChain, e_maNil, e_maCons, e_mTup, e_mCall, e_mFld, e_mProp, e_mMeth, e_mUnO, e_mBinO, e_mCallO, e_mCMeth, e_mRaise, e_mTry, e_mFn, e_mNeg, e_mIsiB, e_mIsiO, e_mFor, e_miRange1, e_miRange2, e_miTup, e_body, e_addII, e_addIB, e_addSS, e_addTT, e_subII, e_mulII, e_fdivII, e_modII, e_powII, e_ltII, e_leII, e_gtII, e_geII, e_is, e_isNot, e_ixT, e_ixS, e_ixD, e_inD, e_fLenS, e_fLenT, e_fMax2, e_fMin2, e_fAbs, e_fIntI, e_fIntB, e_fBoolI, e_fBoolB, e_mExcF, e_tryNil, e_tryCons, e_mBM, e_mEqO, e_mNeO, e_fLenO, e_fBoolO, e_mtTO, e_mInO, e_mNotInO, e_mGetO, e_mtYes, putD, List.getElem?_cons_zero, List.getElem?_cons_succ, List.set_cons_zero, List.set_cons_succ, List.map_cons, List.map_nil, List.length_cons, List.length_nil, List.cons_append, List.nil_append, List.append_nil, List.replicate, Nat.reduceAdd, Nat.reduceSub, Nat.reduceLeDiff, Nat.zero_add, true_and, and_true, reduceIte, Bool.false_eq_true, Bool.true_eq_false, Bool.not_true, Bool.not_false, w_mLst, w_mMake, w_miLst, w_gmUnl, w_mComp, compL_nil, w_compL, w_mSetF, w_addRR]
    refine sboolO_w w (a := .one) (by repeat (first | exact List.Mem.head _ | apply List.Mem.tail)) ?_
    simp only [Sy.beq_refl, Bool.not_true, Bool.not_false, e_mNext, e_mSeq, e_mExpr, e_mRet, e_mRetN, e_mIfS, e_mBreak, e_mCont, e_mAsg, e_mPar, e_gmName, e_gmNil, e_gmCons, e_gmTup, e_gmSub, e_mVar, e_mC, e_mOp, e_mtB, e_mtT, e_mtNot, e_mtAnd, e_mtOr, e_mAnd, e_mOr, e_mAndT, e_mOrT, e_mIf, e_mNotB, e_mChain, e_maNil, e_maCons, e_mTup, e_mCall, e_mFld, e_mProp, e_mMeth, e_mUnO, e_mBinO, e_mCallO, e_mCMeth, e_mRaise, e_mTry, e_mFn, e_mNeg, e_mIsiB, e_mIsiO, e_mFor, e_miRange1, e_miRange2, e_miTup, e_body, e_addII, e_addIB, e_addSS, e_addTT, e_subII, e_mulII, e_fdivII, e_modII, e_powII, e_ltII, e_leII, e_gtII, e_geII, e_is, e_isNot, e_ixT, e_ixS, e_ixD, e_inD, e_fLenS, e_fLenT, e_fMax2, e_fMin2, e_fAbs, e_fIntI, e_fIntB, e_fBoolI, e_fBoolB, e_mExcF, e_tryNil, e_tryCons, e_mBM, e_mEqO, e_mNeO, e_fLenO, e_fBoolO, e_mtTO, e_mInO, e_mNotInO, e_mGetO, e_mtYes, putD, List.getElem?_cons_zero, List.getElem?_cons_succ, List.set_cons_zero, List.set_cons_succ, List.map_cons, List.map_nil, List.length_cons, List.length_nil, List.cons_append, List.nil_append, List.append_nil, List.replicate, Nat.reduceAdd, Nat.reduceSub, Nat.reduceLeDiff, Nat.zero_add, true_and, and_true, reduceIte, Bool.false_eq_true, Bool.true_eq_false, Bool.not_true, Bool.not_false, w_mLst, w_mMake, w_miLst, w_gmUnl, w_mComp, compL_nil, w_compL, w_mSetF, w_addRR]
    exact h _ (w.sub fun _ _ m => by
      repeat (first | exact m | apply List.Mem.tail))
  · rintro d is sd S' ⟨c, k, e5, e6, e7, e9, hi', hk, rfl, w⟩ ih
    cases k with
    | zero => unfold rangeD at hi'; cases hi'
    | succ k =>
      unfold rangeD at hi'
      obtain ⟨rfl, rfl⟩ := List.cons.inj hi'
      refine ⟨trivial, ?_⟩
      try simp only [e_mNext, e_mSeq, e_mExpr, e_mRet, e_mRetN, e_mIfS, e_mBreak, e_mCont, e_mAsg, e_mPar, e_gmName, e_gmNil, e_gmCons, e_gmTup, e_gmSub, e_mVar, e_mC, e_mOp, e_mtB, e_mtT, e_mtNot, e_mtAnd, e_mtOr, e_mAnd, e_mOr, e_mAndT, e_mOrT, e_mIf, e_mNotB, e_mChain, e_maNil, e_maCons, e_mTup, e_mCall, e_mFld, e_mProp, e_mMeth, e_mUnO, e_mBinO, e_mCallO, e_mCMeth, e_mRaise, e_mTry, e_mFn, e_mNeg, e_mIsiB, e_mIsiO, e_mFor, e_miRange1, e_miRange2, e_miTup, e_body, e_addII, e_addIB, e_addSS, e_addTT, e_subII, e_mulII, e_fdivII, e_modII, e_powII, e_ltII, e_leII, e_gtII, e_geII, e_is, e_isNot, e_ixT, e_ixS, e_ixD, e_inD, e_fLenS, e_fLenT, e_fMax2, e_fMin2, e_fAbs, e_fIntI, e_fIntB, e_fBoolI, e_fBoolB, e_mExcF, e_tryNil, e_tryCons, e_mBM, e_mEqO, e_mNeO, e_fLenO, e_fBoolO, e_mtTO, e_mInO, e_mNotInO, e_mGetO, e_mtYes, putD, List.getElem?_cons_zero, List.getElem?_cons_succ, List.set_cons_zero, List.set_cons_succ, List.map_cons, List.map_nil, List.length_cons, List.length_nil, List.cons_append, List.nil_append, List.append_nil, List.replicate, Nat.reduceAdd, Nat.reduceSub, Nat.reduceLeDiff, Nat.zero_add, true_and, and_true, reduceIte, Bool.false_eq_true, Bool.true_eq_false, Bool.not_true, Bool.not_false, w_mLst, w_mMake, w_miLst, w_gmUnl, w_mComp, compL_nil, w_compL, w_mSetF, w_addRR]
      exact one3 w (.tail _ (.tail _ mr)) (.tail _ (.tail _ ms)) (by repeat (first | exact List.Mem.head _ | apply List.Mem.tail)) (by repeat (first | exact List.Mem.head _ | apply List.Mem.tail)) hz ha hd (by omega) (by omega) fun S' e6 e7 e9 w => ih _ _ ⟨c + 1, k, _, e6, e7, e9, rfl, by omega, rfl, w⟩
end
end Lw

namespace Lw
open PySem PySem.Spec PyProof.Rows L2

section
variable {n : Nat} {B : Sto} {L L' : List (Nat × O)} {S S0 S' : Sto} {j j2 i r jr ra rb rc jk sp : Nat} {o : O} {ds xs : List D} {q : QD} {x : QX} {z z2 : Str} {a b c m : Sy} {u v t k wide : Int} {f g : Bool} {K : QD} {p p2 : Int × Int} {md : MEnds}
variable {c0 c1 c2 c3 c4 c5 c6 c7 c8 c9 c10 : Option D}
abbrev LR (jr ra rb rc : Nat) (a b c : Sy) : List (Nat × O) := [(jr, .lst [.ref ra, .ref rb, .ref rc]), (ra, .lst (pts a)), (rb, .lst (pts b)), (rc, .lst (pts c))]
theorem pair_w (w : W n B ((sp, .lst ds) :: LR jr ra rb rc a b c) S) (hz : Net z) (ha : a.ok z) (hb : b.ok z) (hc : c.ok z) (hd : ∀ d ∈ ds, ∃ p, d = pD p) (h : ∀ S', W n B ((sp, .lst ds) :: LR jr ra rb rc a b c) S' → q (.bl true) S') :
    u__law_pair_right [.str z, .ref jr, .ref sp] S q x := by
  have w0 := w
  rw [e_u__law_pair_right, e_b__law_pair_right, e_b__law_pair_right_4, e_b__law_pair_right_3, e_b__law_pair_right_2, e_b__law_pair_right_1]
  simp only [e_mNext, e_mSeq, e_mExpr, e_mRet, e_mRetN, e_mIfS, e_mBreak, e_mCont, e_mAsg, e_mPar, e_gmName, e_gmNil, e_gmCons, e_gmTup, e_gmSub, e_mVar, e_mC, e_mOp, e_mtB, e_mtT, e_mtNot, e_mtAnd, e_mtOr, e_mAnd, e_mOr, e_mAndT, e_mOrT, e_mIf, e_mNotB, e_mChain, e_maNil, e_maCons, e_mTup, e_mCall, e_mFld, e_mProp, e_mMeth, e_mUnO, e_mBinO, e_mCallO, e_mCMeth, e_mRaise, e_mTry, e_mFn, e_mNeg, e_mIsiB, e_mIsiO, e_mFor, e_miRange1, e_miRange2, e_miTup, e_body, e_addII, e_addIB, e_addSS, e_addTT, e_subII, e_mulII, e_fdivII, e_modII, e_powII, e_ltII, e_leII, e_gtII, e_geII, e_is, e_isNot, e_ixT, e_ixS, e_ixD, e_inD, e_fLenS, e_fLenT, e_fMax2, e_fMin2, e_fAbs, e_fIntI, e_fIntB, e_fBoolI, e_fBoolB, e_mExcF, e_tryNil, e_tryCons, e_mBM, e_mEqO, e_mNeO, e_fLenO, e_fBoolO, e_mtTO, e_mInO, e_mNotInO, e_mGetO, e_mtYes, putD, List.getElem?_cons_zero, List.getElem?_cons_succ, List.set_cons_zero, List.set_cons_succ, List.map_cons, List.map_nil, List.length_cons, List.length_nil, List.cons_append, List.nil_append, List.append_nil, List.replicate, Nat.reduceAdd, Nat.reduceSub, Nat.reduceLeDiff, Nat.zero_add, true_and, and_true, reduceIte, Bool.false_eq_true, Bool.true_eq_false, Bool.not_true, Bool.not_false, w_mLst, w_mMake, w_miLst, w_gmUnl, w_mComp, compL_nil, w_compL, w_mSetF, w_addRR]
  refine wlk_ok w (by repeat (first | exact List.Mem.head _ | apply List.Mem.tail)) ?_
  simp only [e_mNext, e_mSeq, e_mExpr, e_mRet, e_mRetN, e_mIfS, e_mBreak, e_mCont, e_mAsg, e_mPar, e_gmName, e_gmNil, e_gmCons, e_gmTup, e_gmSub, e_mVar, e_mC, e_mOp, e_mtB, e_mtT, e_mtNot, e_mtAnd, e_mtOr, e_mAnd, e_mOr, e_mAndT, e_mOrT, e_mIf, e_mNotB, e_mChain, e_maNil, e_maCons, e_mTup, e_mCall, e_mFld, e_mProp, e_mMeth, e_mUnO, e_mBinO, e_mCallO, e_mCMeth, e_mRaise, e_mTry, e_mFn, e_mNeg, e_mIsiB, e_mIsiO, e_mFor, e_miRange1, e_miRange2, e_miTup, e_body, e_addII, e_addIB, e_addSS, e_addTT, e_subII, e_mulII, e_fdivII, e_modII, e_powII, e_ltII, e_leII, e_gtII, e_geII, e_is, e_isNot, e_ixT, e_ixS, e_ixD, e_inD, e_fLenS, e_fLenT, e_fMax2, e_fMin2, e_fAbs, e_fIntI, e_fIntB, e_fBoolI, e_fBoolB, e_mExcF, e_tryNil, e_tryCons, e_mBM, e_mEqO, e_mNeO, e_fLenO, e_fBoolO, e_mtTO, e_mInO, e_mNotInO, e_mGetO, e_mtYes, putD, List.getElem?_cons_zero, List.getElem?_cons_succ, List.set_cons_zero, List.set_cons_succ, List.map_cons, List.map_nil, List.length_cons, List.length_nil, List.cons_append, List.nil_append, List.append_nil, List.replicate, Nat.reduceAdd, Nat.reduceSub, Nat.reduceLeDiff, Nat.zero_add, true_and, and_true, reduceIte, Bool.false_eq_true, Bool.true_eq_false, Bool.not_true, Bool.not_false, w_mLst, w_mMake, w_miLst, w_gmUnl, w_mComp, compL_nil, w_compL, w_mSetF, w_addRR, wipeD]
  refine ⟨w.get (by repeat (first | exact List.Mem.head _ | apply List.Mem.tail)), ?_⟩
  refine made_w w (a := a) (by repeat (first | exact List.Mem.head _ | apply List.Mem.tail)) hz ha fun j1 S1 w => ?_
  refine ⟨(sl_pos (by simp)), w.get (by repeat (first | exact List.Mem.head _ | apply List.Mem.tail)), ?_⟩
  try simp only [e_mNext, e_mSeq, e_mExpr, e_mRet, e_mRetN, e_mIfS, e_mBreak, e_mCont, e_mAsg, e_mPar, e_gmName, e_gmNil, e_gmCons, e_gmTup, e_gmSub, e_mVar, e_mC, e_mOp, e_mtB, e_mtT, e_mtNot, e_mtAnd, e_mtOr, e_mAnd, e_mOr, e_mAndT, e_mOrT, e_mIf, e_mNotB, e_mChain, e_maNil, e_maCons, e_mTup, e_mCall, e_mFld, e_mProp, e_mMeth, e_mUnO, e_mBinO, e_mCallO, e_mCMeth, e_mRaise, e_mTry, e_mFn, e_mNeg, e_mIsiB, e_mIsiO, e_mFor, e_miRange1, e_miRange2, e_miTup, e_body, e_addII, e_addIB, e_addSS, e_addTT, e_subII, e_mulII, e_fdivII, e_modII, e_powII, e_ltII, e_leII, e_gtII, e_geII, e_is, e_isNot, e_ixT, e_ixS, e_ixD, e_inD, e_fLenS, e_fLenT, e_fMax2, e_fMin2, e_fAbs, e_fIntI, e_fIntB, e_fBoolI, e_fBoolB, e_mExcF, e_tryNil, e_tryCons, e_mBM, e_mEqO, e_mNeO, e_fLenO, e_fBoolO, e_mtTO, e_mInO, e_mNotInO, e_mGetO, e_mtYes, putD, List.getElem?_cons_zero, List.getElem?_cons_succ, List.set_cons_zero, List.set_cons_succ, List.map_cons, List.map_nil, List.length_cons, List.length_nil, List.cons_append, List.nil_append, List.append_nil, List.replicate, Nat.reduceAdd, Nat.reduceSub, Nat.reduceLeDiff, Nat.zero_add, true_and, and_true, reduceIte, Bool.false_eq_true, Bool.true_eq_false, Bool.not_true, Bool.not_false, w_mLst, w_mMake, w_miLst, w_gmUnl, w_mComp, compL_nil, w_compL, w_mSetF, w_addRR]
  refine made_w w (a := b) (by repeat (first | exact List.Mem.head _ | apply List.Mem.tail)) hz hb fun j2 S2 w => ?_
  refine ⟨(sl_pos (by simp)), w.get (by repeat (first | exact List.Mem.head _ | apply List.Mem.tail)), ?_⟩
  try simp only [e_mNext, e_mSeq, e_mExpr, e_mRet, e_mRetN, e_mIfS, e_mBreak, e_mCont, e_mAsg, e_mPar, e_gmName, e_gmNil, e_gmCons, e_gmTup, e_gmSub, e_mVar, e_mC, e_mOp, e_mtB, e_mtT, e_mtNot, e_mtAnd, e_mtOr, e_mAnd, e_mOr, e_mAndT, e_mOrT, e_mIf, e_mNotB, e_mChain, e_maNil, e_maCons, e_mTup, e_mCall, e_mFld, e_mProp, e_mMeth, e_mUnO, e_mBinO, e_mCallO, e_mCMeth, e_mRaise, e_mTry, e_mFn, e_mNeg, e_mIsiB, e_mIsiO, e_mFor, e_miRange1, e_miRange2, e_miTup, e_body, e_addII, e_addIB, e_addSS, e_addTT, e_subII, e_mulII, e_fdivII, e_modII, e_powII, e_ltII, e_leII, e_gtII, e_geII, e_is, e_isNot, e_ixT, e_ixS, e_ixD, e_inD, e_fLenS, e_fLenT, e_fMax2, e_fMin2, e_fAbs, e_fIntI, e_fIntB, e_fBoolI, e_fBoolB, e_mExcF, e_tryNil, e_tryCons, e_mBM, e_mEqO, e_mNeO, e_fLenO, e_fBoolO, e_mtTO, e_mInO, e_mNotInO, e_mGetO, e_mtYes, putD, List.getElem?_cons_zero, List.getElem?_cons_succ, List.set_cons_zero, List.set_cons_succ, List.map_cons, List.map_nil, List.length_cons, List.length_nil, List.cons_append, List.nil_append, List.append_nil, List.replicate, Nat.reduceAdd, Nat.reduceSub, Nat.reduceLeDiff, Nat.zero_add, true_and, and_true, reduceIte, Bool.false_eq_true, Bool.true_eq_false, Bool.not_true, Bool.not_false, w_mLst, w_mMake, w_miLst, w_gmUnl, w_mComp, compL_nil, w_compL, w_mSetF, w_addRR]
  refine made_w w (a := c) (by repeat (first | exact List.Mem.head _ | apply List.Mem.tail)) hz hc fun j3 S3 w => ?_
  refine ⟨(sl_pos (by simp)), w.get (by repeat (first | exact List.Mem.head _ | apply List.Mem.tail)), ?_⟩
  try simp only [e_mNext, e_mSeq, e_mExpr, e_mRet, e_mRetN, e_mIfS, e_mBreak, e_mCont, e_mAsg, e_mPar, e_gmName, e_gmNil, e_gmCons, e_gmTup, e_gmSub, e_mVar, e_mC, e_mOp, e_mtB, e_mtT, e_mtNot, e_mtAnd, e_mtOr, e_mAnd, e_mOr, e_mAndT, e_mOrT, e_mIf, e_mNotB, e_mChain, e_maNil, e_maCons, e_mTup, e_mCall, e_mFld, e_mProp, e_mMeth, e_mUnO, e_mBinO, e_mCallO, e_mCMeth, e_mRaise, e_mTry, e_mFn, e_mNeg, e_mIsiB, e_mIsiO, e_mFor, e_miRange1, e_miRange2, e_miTup, e_body, e_addII, e_addIB, e_addSS, e_addTT, e_subII, e_mulII, e_fdivII, e_modII, e_powII, e_ltII, e_leII, e_gtII, e_geII, e_is, e_isNot, e_ixT, e_ixS, e_ixD, e_inD, e_fLenS, e_fLenT, e_fMax2, e_fMin2, e_fAbs, e_fIntI, e_fIntB, e_fBoolI, e_fBoolB, e_mExcF, e_tryNil, e_tryCons, e_mBM, e_mEqO, e_mNeO, e_fLenO, e_fBoolO, e_mtTO, e_mInO, e_mNotInO, e_mGetO, e_mtYes, putD, List.getElem?_cons_zero, List.getElem?_cons_succ, List.set_cons_zero, List.set_cons_succ, List.map_cons, List.map_nil, List.length_cons, List.length_nil, List.cons_append, List.nil_append, List.append_nil, List.replicate, Nat.reduceAdd, Nat.reduceSub, Nat.reduceLeDiff, Nat.zero_add, true_and, and_true, reduceIte, Bool.false_eq_true, Bool.true_eq_false, Bool.not_true, Bool.not_false, w_mLst, w_mMake, w_miLst, w_gmUnl, w_mComp, compL_nil, w_compL, w_mSetF, w_addRR]
  intro i4 S4 e1 e2
  replace w := w.new e1 e2
  refine unl_ok w (by repeat (first | exact List.Mem.head _ | apply List.Mem.tail)) rfl ?_
  simp only [e_mNext, e_mSeq, e_mExpr, e_mRet, e_mRetN, e_mIfS, e_mBreak, e_mCont, e_mAsg, e_mPar, e_gmName, e_gmNil, e_gmCons, e_gmTup, e_gmSub, e_mVar, e_mC, e_mOp, e_mtB, e_mtT, e_mtNot, e_mtAnd, e_mtOr, e_mAnd, e_mOr, e_mAndT, e_mOrT, e_mIf, e_mNotB, e_mChain, e_maNil, e_maCons, e_mTup, e_mCall, e_mFld, e_mProp, e_mMeth, e_mUnO, e_mBinO, e_mCallO, e_mCMeth, e_mRaise, e_mTry, e_mFn, e_mNeg, e_mIsiB, e_mIsiO, e_mFor, e_miRange1, e_miRange2, e_miTup, e_body, e_addII, e_addIB, e_addSS, e_addTT, e_subII, e_mulII, e_fdivII, e_modII, e_powII, e_ltII, e_leII, e_gtII, e_geII, e_is, e_isNot, e_ixT, e_ixS, e_ixD, e_inD, e_fLenS, e_fLenT, e_fMax2, e_fMin2, e_fAbs, e_fIntI, e_fIntB, e_fBoolI, e_fBoolB, e_mExcF, e_tryNil, e_tryCons, e_mBM, e_mEqO, e_mNeO, e_fLenO, e_fBoolO, e_mtTO, e_mInO, e_mNotInO, e_mGetO, e_mtYes, putD, List.getElem?_cons_zero, List.getElem?_cons_succ, List.set_cons_zero, List.set_cons_succ, List.map_cons, List.map_nil, List.length_cons, List.length_nil, List.cons_append, List.nil_append, List.append_nil, List.replicate, Nat.reduceAdd, Nat.reduceSub, Nat.reduceLeDiff, Nat.zero_add, true_and, and_true, reduceIte, Bool.false_eq_true, Bool.true_eq_false, Bool.not_true, Bool.not_false, w_mLst, w_mMake, w_miLst, w_gmUnl, w_mComp, compL_nil, w_compL, w_mSetF, w_addRR]
  refine smul_w w (a := a) (b := b) (by repeat (first | exact List.Mem.head _ | apply List.Mem.tail)) (by repeat (first | exact List.Mem.head _ | apply List.Mem.tail)) hz ha hb fun k1 S5 w => ?_
  try simp only [e_mNext, e_mSeq, e_mExpr, e_mRet, e_mRetN, e_mIfS, e_mBreak, e_mCont, e_mAsg, e_mPar, e_gmName, e_gmNil, e_gmCons, e_gmTup, e_gmSub, e_mVar, e_mC, e_mOp, e_mtB, e_mtT, e_mtNot, e_mtAnd, e_mtOr, e_mAnd, e_mOr, e_mAndT, e_mOrT, e_mIf, e_mNotB, e_mChain, e_maNil, e_maCons, e_mTup, e_mCall, e_mFld, e_mProp, e_mMeth, e_mUnO, e_mBinO, e_mCallO, e_mCMeth, e_mRaise, e_mTry, e_mFn, e_mNeg, e_mIsiB, e_mIsiO, e_mFor, e_miRange1, e_miRange2, e_miTup, e_body, e_addII, e_addIB, e_addSS, e_addTT, e_subII, e_mulII, e_fdivII, e_modII, e_powII, e_ltII, e_leII, e_gtII, e_geII, e_is, e_isNot, e_ixT, e_ixS, e_ixD, e_inD, e_fLenS, e_fLenT, e_fMax2, e_fMin2, e_fAbs, e_fIntI, e_fIntB, e_fBoolI, e_fBoolB, e_mExcF, e_tryNil, e_tryCons, e_mBM, e_mEqO, e_mNeO, e_fLenO, e_fBoolO, e_mtTO, e_mInO, e_mNotInO, e_mGetO, e_mtYes, putD, List.getElem?_cons_zero, List.getElem?_cons_succ, List.set_cons_zero, List.set_cons_succ, List.map_cons, List.map_nil, List.length_cons, List.length_nil, List.cons_append, List.nil_append, List.append_nil, List.replicate, Nat.reduceAdd, Nat.reduceSub, Nat.reduceLeDiff, Nat.zero_add, true_and, and_true, reduceIte, Bool.false_eq_true, Bool.true_eq_false, Bool.not_true, Bool.not_false, w_mLst, w_mMake, w_miLst, w_gmUnl, w_mComp, compL_nil, w_compL, w_mSetF, w_addRR]
  refine smul_w w (a := a.mul z b) (b := c) (by repeat (first | exact List.Mem.head _ | apply List.Mem.tail)) (by repeat (first | exact List.Mem.head _ | apply List.Mem.tail)) hz Sy.ok_mul hc fun k2 S6 w => ?_
  try simp only [e_mNext, e_mSeq, e_mExpr, e_mRet, e_mRetN, e_mIfS, e_mBreak, e_mCont, e_mAsg, e_mPar, e_gmName, e_gmNil, e_gmCons, e_gmTup, e_gmSub, e_mVar, e_mC, e_mOp, e_mtB, e_mtT, e_mtNot, e_mtAnd, e_mtOr, e_mAnd, e_mOr, e_mAndT, e_mOrT, e_mIf, e_mNotB, e_mChain, e_maNil, e_maCons, e_mTup, e_mCall, e_mFld, e_mProp, e_mMeth, e_mUnO, e_mBinO, e_mCallO, e_mCMeth, e_mRaise, e_mTry, e_mFn, e_mNeg, e_mIsiB, e_mIsiO, e_mFor, e_miRange1, e_miRange2, e_miTup, e_body, e_addII, e_addIB, e_addSS, e_addTT, e_subII, e_mulII, e_fdivII, e_modII, e_powII, e_ltII, e_leII, e_gtII, e_geII, e_is, e_isNot, e_ixT, e_ixS, e_ixD, e_inD, e_fLenS, e_fLenT, e_fMax2, e_fMin2, e_fAbs, e_fIntI, e_fIntB, e_fBoolI, e_fBoolB, e_mExcF, e_tryNil, e_tryCons, e_mBM, e_mEqO, e_mNeO, e_fLenO, e_fBoolO, e_mtTO, e_mInO, e_mNotInO, e_mGetO, e_mtYes, putD, List.getElem?_cons_zero, List.getElem?_cons_succ, List.set_cons_zero, List.set_cons_succ, List.map_cons, List.map_nil, List.length_cons, List.length_nil, List.cons_append, List.nil_append, List.append_nil, List.replicate, Nat.reduceAdd, Nat.reduceSub, Nat.reduceLeDiff, Nat.zero_add, true_and, and_true, reduceIte, Bool.false_eq_true, Bool.true_eq_false, Bool.not_true, Bool.not_false, w_mLst, w_mMake, w_miLst, w_gmUnl, w_mComp, compL_nil, w_compL, w_mSetF, w_addRR]
  refine smul_w w (a := b) (b := c) (by repeat (first | exact List.Mem.head _ | apply List.Mem.tail)) (by repeat (first | exact List.Mem.head _ | apply List.Mem.tail)) hz hb hc fun k3 S7 w => ?_
  try simp only [e_mNext, e_mSeq, e_mExpr, e_mRet, e_mRetN, e_mIfS, e_mBreak, e_mCont, e_mAsg, e_mPar, e_gmName, e_gmNil, e_gmCons, e_gmTup, e_gmSub, e_mVar, e_mC, e_mOp, e_mtB, e_mtT, e_mtNot, e_mtAnd, e_mtOr, e_mAnd, e_mOr, e_mAndT, e_mOrT, e_mIf, e_mNotB, e_mChain, e_maNil, e_maCons, e_mTup, e_mCall, e_mFld, e_mProp, e_mMeth, e_mUnO, e_mBinO, e_mCallO, e_mCMeth, e_mRaise, e_mTry, e_mFn, e_mNeg, e_mIsiB, e_mIsiO, e_mFor, e_miRange1, e_miRange2, e_miTup, e_body, e_addII, e_addIB, e_addSS, e_addTT, e_subII, e_mulII, e_fdivII, e_modII, e_powII, e_ltII, e_leII, e_gtII, e_geII, e_is, e_isNot, e_ixT, e_ixS, e_ixD, e_inD, e_fLenS, e_fLenT, e_fMax2, e_fMin2, e_fAbs, e_fIntI, e_fIntB, e_fBoolI, e_fBoolB, e_mExcF, e_tryNil, e_tryCons, e_mBM, e_mEqO, e_mNeO, e_fLenO, e_fBoolO, e_mtTO, e_mInO, e_mNotInO, e_mGetO, e_mtYes, putD, List.getElem?_cons_zero, List.getElem?_cons_succ, List.set_cons_zero, List.set_cons_succ, List.map_cons, List.map_nil, List.length_cons, List.length_nil, List.cons_append, List.nil_append, List.append_nil, List.replicate, Nat.reduceAdd, Nat.reduceSub, Nat.reduceLeDiff, Nat.zero_add, true_and, and_true, reduceIte, Bool.false_eq_true, Bool.true_eq_false, Bool.not_true, Bool.not_false, w_mLst, w_mMake, w_miLst, w_gmUnl, w_mComp, compL_nil, w_compL, w_mSetF, w_addRR]
  refine smul_w w (a := a) (b := b.mul z c) (by repeat (first | exact List.Mem.head _ | apply List.Mem.tail)) (by repeat (first | exact List.Mem.head _ | apply List.Mem.tail)) hz ha Sy.ok_mul fun k4 S8 w => ?_
  try simp only [e_mNext, e_mSeq, e_mExpr, e_mRet, e_mRetN, e_mIfS, e_mBreak, e_mCont, e_mAsg, e_mPar, e_gmName, e_gmNil, e_gmCons, e_gmTup, e_gmSub, e_mVar, e_mC, e_mOp, e_mtB, e_mtT, e_mtNot, e_mtAnd, e_mtOr, e_mAnd, e_mOr, e_mAndT, e_mOrT, e_mIf, e_mNotB, e_mChain, e_maNil, e_maCons, e_mTup, e_mCall, e_mFld, e_mProp, e_mMeth, e_mUnO, e_mBinO, e_mCallO, e_mCMeth, e_mRaise, e_mTry, e_mFn, e_mNeg, e_mIsiB, e_mIsiO, e_mFor, e_miRange1, e_miRange2, e_miTup, e_body, e_addII, e_addIB, e_addSS, e_addTT, e_subII, e_mulII, e_fdivII, e_modII, e_powII, e_ltII, e_leII, e_gtII, e_geII, e_is, e_isNot, e_ixT, e_ixS, e_ixD, e_inD, e_fLenS, e_fLenT, e_fMax2, e_fMin2, e_fAbs, e_fIntI, e_fIntB, e_fBoolI, e_fBoolB, e_mExcF, e_tryNil, e_tryCons, e_mBM, e_mEqO, e_mNeO, e_fLenO, e_fBoolO, e_mtTO, e_mInO, e_mNotInO, e_mGetO, e_mtYes, putD, List.getElem?_cons_zero, List.getElem?_cons_succ, List.set_cons_zero, List.set_cons_succ, List.map_cons, List.map_nil, List.length_cons, List.length_nil, List.cons_append, List.nil_append, List.append_nil, List.replicate, Nat.reduceAdd, Nat.reduceSub, Nat.reduceLeDiff, Nat.zero_add, true_and, and_true, reduceIte, Bool.false_eq_true, Bool.true_eq_false, Bool.not_true, Bool.not_false, w_mLst, w_mMake, w_miLst, w_gmUnl, w_mComp, compL_nil, w_compL, w_mSetF, w_addRR]
  refine snes_w w (a := (a.mul z b).mul z c) (b := a.mul z (b.mul z c)) (by repeat (first | exact List.Mem.head _ | apply List.Mem.tail)) (by repeat (first | exact List.Mem.head _ | apply List.Mem.tail)) hz (Sy.assoc hz) ?_
  try simp only [e_mNext, e_mSeq, e_mExpr, e_mRet, e_mRetN, e_mIfS, e_mBreak, e_mCont, e_mAsg, e_mPar, e_gmName, e_gmNil, e_gmCons, e_gmTup, e_gmSub, e_mVar, e_mC, e_mOp, e_mtB, e_mtT, e_mtNot, e_mtAnd, e_mtOr, e_mAnd, e_mOr, e_mAndT, e_mOrT, e_mIf, e_mNotB, e_mChain, e_maNil, e_maCons, e_mTup, e_mCall, e_mFld, e_mProp, e_mMeth, e_mUnO, e_mBinO, e_mCallO, e_mCMeth, e_mRaise, e_mTry, e_mFn, e_mNeg, e_mIsiB, e_mIsiO, e_mFor, e_miRange1, e_miRange2, e_miTup, e_body, e_addII, e_addIB, e_addSS, e_addTT, e_subII, e_mulII, e_fdivII, e_modII, e_powII, e_ltII, e_leII, e_gtII, e_geII, e_is, e_isNot, e_ixT, e_ixS, e_ixD, e_inD, e_fLenS, e_fLenT, e_fMax2, e_fMin2, e_fAbs, e_fIntI, e_fIntB, e_fBoolI, e_fBoolB, e_mExcF, e_tryNil, e_tryCons, e_mBM, e_mEqO, e_mNeO, e_fLenO, e_fBoolO, e_mtTO, e_mInO, e_mNotInO, e_mGetO, e_mtYes, putD, List.getElem?_cons_zero, List.getElem?_cons_succ, List.set_cons_zero, List.set_cons_succ, List.map_cons, List.map_nil, List.length_cons, List.length_nil, List.cons_append, List.nil_append, List.append_nil, List.replicate, Nat.reduceAdd, Nat.reduceSub, Nat.reduceLeDiff, Nat.zero_add, true_and, and_true, reduceIte, Bool.false_eq_true, Bool.true_eq_false, Bool.not_true, Bool.not_false, w_mLst, w_mMake, w_miLst, w_gmUnl, w_mComp, compL_nil, w_compL, w_mSetF, w_addRR]
  refine smul_w w (a := a) (b := b) (by repeat (first | exact List.Mem.head _ | apply List.Mem.tail)) (by repeat (first | exact List.Mem.head _ | apply List.Mem.tail)) hz ha hb fun k5 S9 w => ?_
  try simp only [e_mNext, e_mSeq, e_mExpr, e_mRet, e_mRetN, e_mIfS, e_mBreak, e_mCont, e_mAsg, e_mPar, e_gmName, e_gmNil, e_gmCons, e_gmTup, e_gmSub, e_mVar, e_mC, e_mOp, e_mtB, e_mtT, e_mtNot, e_mtAnd, e_mtOr, e_mAnd, e_mOr, e_mAndT, e_mOrT, e_mIf, e_mNotB, e_mChain, e_maNil, e_maCons, e_mTup, e_mCall, e_mFld, e_mProp, e_mMeth, e_mUnO, e_mBinO, e_mCallO, e_mCMeth, e_mRaise, e_mTry, e_mFn, e_mNeg, e_mIsiB, e_mIsiO, e_mFor, e_miRange1, e_miRange2, e_miTup, e_body, e_addII, e_addIB, e_addSS, e_addTT, e_subII, e_mulII, e_fdivII, e_modII, e_powII, e_ltII, e_leII, e_gtII, e_geII, e_is, e_isNot, e_ixT, e_ixS, e_ixD, e_inD, e_fLenS, e_fLenT, e_fMax2, e_fMin2, e_fAbs, e_fIntI, e_fIntB, e_fBoolI, e_fBoolB, e_mExcF, e_tryNil, e_tryCons, e_mBM, e_mEqO, e_mNeO, e_fLenO, e_fBoolO, e_mtTO, e_mInO, e_mNotInO, e_mGetO, e_mtYes, putD, List.getElem?_cons_zero, List.getElem?_cons_succ, List.set_cons_zero, List.set_cons_succ, List.map_cons, List.map_nil, List.length_cons, List.length_nil, List.cons_append, List.nil_append, List.append_nil, List.replicate, Nat.reduceAdd, Nat.reduceSub, Nat.reduceLeDiff, Nat.zero_add, true_and, and_true, reduceIte, Bool.false_eq_true, Bool.true_eq_false, Bool.not_true, Bool.not_false, w_mLst, w_mMake, w_miLst, w_gmUnl, w_mComp, compL_nil, w_compL, w_mSetF, w_addRR]
  refine sinv_w w (a := a.mul z b) (by repeat (first | exact List.Mem.head _ | apply List.Mem.tail)) hz Sy.ok_mul fun k6 S10 w => ?_
  try simp only [e_mNext, e_mSeq, e_mExpr, e_mRet, e_mRetN, e_mIfS, e_mBreak, e_mCont, e_mAsg, e_mPar, e_gmName, e_gmNil, e_gmCons, e_gmTup, e_gmSub, e_mVar, e_mC, e_mOp, e_mtB, e_mtT, e_mtNot, e_mtAnd, e_mtOr, e_mAnd, e_mOr, e_mAndT, e_mOrT, e_mIf, e_mNotB, e_mChain, e_maNil, e_maCons, e_mTup, e_mCall, e_mFld, e_mProp, e_mMeth, e_mUnO, e_mBinO, e_mCallO, e_mCMeth, e_mRaise, e_mTry, e_mFn, e_mNeg, e_mIsiB, e_mIsiO, e_mFor, e_miRange1, e_miRange2, e_miTup, e_body, e_addII, e_addIB, e_addSS, e_addTT, e_subII, e_mulII, e_fdivII, e_modII, e_powII, e_ltII, e_leII, e_gtII, e_geII, e_is, e_isNot, e_ixT, e_ixS, e_ixD, e_inD, e_fLenS, e_fLenT, e_fMax2, e_fMin2, e_fAbs, e_fIntI, e_fIntB, e_fBoolI, e_fBoolB, e_mExcF, e_tryNil, e_tryCons, e_mBM, e_mEqO, e_mNeO, e_fLenO, e_fBoolO, e_mtTO, e_mInO, e_mNotInO, e_mGetO, e_mtYes, putD, List.getElem?_cons_zero, List.getElem?_cons_succ, List.set_cons_zero, List.set_cons_succ, List.map_cons, List.map_nil, List.length_cons, List.length_nil, List.cons_append, List.nil_append, List.append_nil, List.replicate, Nat.reduceAdd, Nat.reduceSub, Nat.reduceLeDiff, Nat.zero_add, true_and, and_true, reduceIte, Bool.false_eq_true, Bool.true_eq_false, Bool.not_true, Bool.not_false, w_mLst, w_mMake, w_miLst, w_gmUnl, w_mComp, compL_nil, w_compL, w_mSetF, w_addRR]
  refine sinv_w w (a := b) (by repeat (first | exact List.Mem.head _ | apply List.Mem.tail)) hz hb fun k7 S11 w => ?_
  try simp only [e_mNext, e_mSeq, e_mExpr, e_mRet, e_mRetN, e_mIfS, e_mBreak, e_mCont, e_mAsg, e_mPar, e_gmName, e_gmNil, e_gmCons, e_gmTup, e_gmSub, e_mVar, e_mC, e_mOp, e_mtB, e_mtT, e_mtNot, e_mtAnd, e_mtOr, e_mAnd, e_mOr, e_mAndT, e_mOrT, e_mIf, e_mNotB, e_mChain, e_maNil, e_maCons, e_mTup, e_mCall, e_mFld, e_mProp, e_mMeth, e_mUnO, e_mBinO, e_mCallO, e_mCMeth, e_mRaise, e_mTry, e_mFn, e_mNeg, e_mIsiB, e_mIsiO, e_mFor, e_miRange1, e_miRange2, e_miTup, e_body, e_addII, e_addIB, e_addSS, e_addTT, e_subII, e_mulII, e_fdivII, e_modII, e_powII, e_ltII, e_leII, e_gtII, e_geII, e_is, e_isNot, e_ixT, e_ixS, e_ixD, e_inD, e_fLenS, e_fLenT, e_fMax2, e_fMin2, e_fAbs, e_fIntI, e_fIntB, e_fBoolI, e_fBoolB, e_mExcF, e_tryNil, e_tryCons, e_mBM, e_mEqO, e_mNeO, e_fLenO, e_fBoolO, e_mtTO, e_mInO, e_mNotInO, e_mGetO, e_mtYes, putD, List.getElem?_cons_zero, List.getElem?_cons_succ, List.set_cons_zero, List.set_cons_succ, List.map_cons, List.map_nil, List.length_cons, List.length_nil, List.cons_append, List.nil_append, List.append_nil, List.replicate, Nat.reduceAdd, Nat.reduceSub, Nat.reduceLeDiff, Nat.zero_add, true_and, and_true, reduceIte, Bool.false_eq_true, Bool.true_eq_false, Bool.not_true, Bool.not_false, w_mLst, w_mMake, w_miLst, w_gmUnl, w_mComp, compL_nil, w_compL, w_mSetF, w_addRR]
  refine sinv_w w (a := a) (by repeat (first | exact List.Mem.head _ | apply List.Mem.tail)) hz ha fun k8 S12 w => ?_
  try simp only [e_mNext, e_mSeq, e_mExpr, e_mRet, e_mRetN, e_mIfS, e_mBreak, e_mCont, e_mAsg, e_mPar, e_gmName, e_gmNil, e_gmCons, e_gmTup, e_gmSub, e_mVar, e_mC, e_mOp, e_mtB, e_mtT, e_mtNot, e_mtAnd, e_mtOr, e_mAnd, e_mOr, e_mAndT, e_mOrT, e_mIf, e_mNotB, e_mChain, e_maNil, e_maCons, e_mTup, e_mCall, e_mFld, e_mProp, e_mMeth, e_mUnO, e_mBinO, e_mCallO, e_mCMeth, e_mRaise, e_mTry, e_mFn, e_mNeg, e_mIsiB, e_mIsiO, e_mFor, e_miRange1, e_miRange2, e_miTup, e_body, e_addII, e_addIB, e_addSS, e_addTT, e_subII, e_mulII, e_fdivII, e_modII, e_powII, e_ltII, e_leII, e_gtII, e_geII, e_is, e_isNot, e_ixT, e_ixS, e_ixD, e_inD, e_fLenS, e_fLenT, e_fMax2, e_fMin2, e_fAbs, e_fIntI, e_fIntB, e_fBoolI, e_fBoolB, e_mExcF, e_tryNil, e_tryCons, e_mBM, e_mEqO, e_mNeO, e_fLenO, e_fBoolO, e_mtTO, e_mInO, e_mNotInO, e_mGetO, e_mtYes, putD, List.getElem?_cons_zero, List.getElem?_cons_succ, List.set_cons_zero, List.set_cons_succ, List.map_cons, List.map_nil, List.length_cons, List.length_nil, List.cons_append, List.nil_append, List.append_nil, List.replicate, Nat.reduceAdd, Nat.reduceSub, Nat.reduceLeDiff, Nat.zero_add, true_and, and_true, reduceIte, Bool.false_eq_true, Bool.true_eq_false, Bool.not_true, Bool.not_false, w_mLst, w_mMake, w_miLst, w_gmUnl, w_mComp, compL_nil, w_compL, w_mSetF, w_addRR]
  refine smul_w w (a := b.inv z) (b := a.inv z) (by repeat (first | exact List.Mem.head _ | apply List.Mem.tail)) (by repeat (first | exact List.Mem.head _ | apply List.Mem.tail)) hz (Sy.ok_inv hb) (Sy.ok_inv ha) fun k9 S13 w => ?_
  try simp only [e_mNext, e_mSeq, e_mExpr, e_mRet, e_mRetN, e_mIfS, e_mBreak, e_mCont, e_mAsg, e_mPar, e_gmName, e_gmNil, e_gmCons, e_gmTup, e_gmSub, e_mVar, e_mC, e_mOp, e_mtB, e_mtT, e_mtNot, e_mtAnd, e_mtOr, e_mAnd, e_mOr, e_mAndT, e_mOrT, e_mIf, e_mNotB, e_mChain, e_maNil, e_maCons, e_mTup, e_mCall, e_mFld, e_mProp, e_mMeth, e_mUnO, e_mBinO, e_mCallO, e_mCMeth, e_mRaise, e_mTry, e_mFn, e_mNeg, e_mIsiB, e_mIsiO, e_mFor, e_miRange1, e_miRange2, e_miTup, e_body, e_addII, e_addIB, e_addSS, e_addTT, e_subII, e_mulII, e_fdivII, e_modII, e_powII, e_ltII, e_leII, e_gtII, e_geII, e_is, e_isNot, e_ixT, e_ixS, e_ixD, e_inD, e_fLenS, e_fLenT, e_fMax2, e_fMin2, e_fAbs, e_fIntI, e_fIntB, e_fBoolI, e_fBoolB, e_mExcF, e_tryNil, e_tryCons, e_mBM, e_mEqO, e_mNeO, e_fLenO, e_fBoolO, e_mtTO, e_mInO, e_mNotInO, e_mGetO, e_mtYes, putD, List.getElem?_cons_zero, List.getElem?_cons_succ, List.set_cons_zero, List.set_cons_succ, List.map_cons, List.map_nil, List.length_cons, List.length_nil, List.cons_append, List.nil_append, List.append_nil, List.replicate, Nat.reduceAdd, Nat.reduceSub, Nat.reduceLeDiff, Nat.zero_add, true_and, and_true, reduceIte, Bool.false_eq_true, Bool.true_eq_false, Bool.not_true, Bool.not_false, w_mLst, w_mMake, w_miLst, w_gmUnl, w_mComp, compL_nil, w_compL, w_mSetF, w_addRR]
  refine snes_w w (a := (a.mul z b).inv z) (b := (b.inv z).mul z (a.inv z)) (by repeat (first | exact List.Mem.head _ | apply List.Mem.tail)) (by repeat (first | exact List.Mem.head _ | apply List.Mem.tail)) hz (Sy.inv_of_mul hz ha hb) ?_
  try simp only [e_mNext, e_mSeq, e_mExpr, e_mRet, e_mRetN, e_mIfS, e_mBreak, e_mCont, e_mAsg, e_mPar, e_gmName, e_gmNil, e_gmCons, e_gmTup, e_gmSub, e_mVar, e_mC, e_mOp, e_mtB, e_mtT, e_mtNot, e_mtAnd, e_mtOr, e_mAnd, e_mOr, e_mAndT, e_mOrT, e_mIf, e_mNotB, e_mChain, e_maNil, e_maCons, e_mTup, e_mCall, e_mFld, e_mProp, e_mMeth, e_mUnO, e_mBinO, e_mCallO, e_mCMeth, e_mRaise, e_mTry, e_mFn, e_mNeg, e_mIsiB, e_mIsiO, e_mFor, e_miRange1, e_miRange2, e_miTup, e_body, e_addII, e_addIB, e_addSS, e_addTT, e_subII, e_mulII, e_fdivII, e_modII, e_powII, e_ltII, e_leII, e_gtII, e_geII, e_is, e_isNot, e_ixT, e_ixS, e_ixD, e_inD, e_fLenS, e_fLenT, e_fMax2, e_fMin2, e_fAbs, e_fIntI, e_fIntB, e_fBoolI, e_fBoolB, e_mExcF, e_tryNil, e_tryCons, e_mBM, e_mEqO, e_mNeO, e_fLenO, e_fBoolO, e_mtTO, e_mInO, e_mNotInO, e_mGetO, e_mtYes, putD, List.getElem?_cons_zero, List.getElem?_cons_succ, List.set_cons_zero, List.set_cons_succ, List.map_cons, List.map_nil, List.length_cons, List.length_nil, List.cons_append, List.nil_append, List.append_nil, List.replicate, Nat.reduceAdd, Nat.reduceSub, Nat.reduceLeDiff, Nat.zero_add, true_and, and_true, reduceIte, Bool.false_eq_true, Bool.true_eq_false, Bool.not_true, Bool.not_false, w_mLst, w_mMake, w_miLst, w_gmUnl, w_mComp, compL_nil, w_compL, w_mSetF, w_addRR]
  refine smul_w w (a := a) (b := b) (by repeat (first | exact List.Mem.head _ | apply List.Mem.tail)) (by repeat (first | exact List.Mem.head _ | apply List.Mem.tail)) hz ha hb fun k10 S14 w => ?_
  try simp only [e_mNext, e_mSeq, e_mExpr, e_mRet, e_mRetN, e_mIfS, e_mBreak, e_mCont, e_mAsg, e_mPar, e_gmName, e_gmNil, e_gmCons, e_gmTup, e_gmSub, e_mVar, e_mC, e_mOp, e_mtB, e_mtT, e_mtNot, e_mtAnd, e_mtOr, e_mAnd, e_mOr, e_mAndT, e_mOrT, e_mIf, e_mNotB, e_mChain, e_maNil, e_maCons, e_mTup, e_mCall, e_mFld, e_mProp, e_mMeth, e_mUnO, e_mBinO, e_mCallO, e_mCMeth, e_mRaise, e_mTry, e_mFn, e_mNeg, e_mIsiB, e_mIsiO, e_mFor, e_miRange1, e_miRange2, e_miTup, e_body, e_addII, e_addIB, e_addSS, e_addTT, e_subII, e_mulII, e_fdivII, e_modII, e_powII, e_ltII, e_leII, e_gtII, e_geII, e_is, e_isNot, e_ixT, e_ixS, e_ixD, e_inD, e_fLenS, e_fLenT, e_fMax2, e_fMin2, e_fAbs, e_fIntI, e_fIntB, e_fBoolI, e_fBoolB, e_mExcF, e_tryNil, e_tryCons, e_mBM, e_mEqO, e_mNeO, e_fLenO, e_fBoolO, e_mtTO, e_mInO, e_mNotInO, e_mGetO, e_mtYes, putD, List.getElem?_cons_zero, List.getElem?_cons_succ, List.set_cons_zero, List.set_cons_succ, List.map_cons, List.map_nil, List.length_cons, List.length_nil, List.cons_append, List.nil_append, List.append_nil, List.replicate, Nat.reduceAdd, Nat.reduceSub, Nat.reduceLeDiff, Nat.zero_add, true_and, and_true, reduceIte, Bool.false_eq_true, Bool.true_eq_false, Bool.not_true, Bool.not_false, w_mLst, w_mMake, w_miLst, w_gmUnl, w_mComp, compL_nil, w_compL, w_mSetF, w_addRR]
  replace w := W.sub (L' := (k10, syo z (a.mul z b)) :: (j1, syo z a) :: (j2, syo z b) :: (sp, .lst ds) :: LR jr ra rb rc a b c) w fun i o m => by
    simp only [List.mem_cons, List.not_mem_nil, or_false] at m
    rcases m with e | e | e | e | e | e | e | e <;> cases e <;> simp only [List.mem_cons, true_or, or_true]
  refine wlk_ok w (by repeat (first | exact List.Mem.head _ | apply List.Mem.tail)) ?_
  refine forL_ind (fun items sd S' => (∀ d ∈ items, ∃ p, d = pD p) ∧ (∃ (e7 e8 : Option D), sd = [some (.str z), some (.ref jr), some (.ref sp), some (.ref j1), some (.ref j2), some (.ref j3), some (.ref k10), e7, e8]) ∧ W n B ((k10, syo z (a.mul z b)) :: (j1, syo z a) :: (j2, syo z b) :: (sp, .lst ds) :: LR jr ra rb rc a b c) S') ?_ ?_ _ _ _ ⟨hd, ⟨none, none, rfl⟩, w⟩
  · rintro sd S' ⟨_, ⟨e7, e8, rfl⟩, w⟩
    refine ⟨w.get (by repeat (first | exact List.Mem.head _ | apply List.Mem.tail)), ?_⟩
    try simp only [e_mNext, e_mSeq, e_mExpr, e_mRet, e_mRetN, e_mIfS, e_mBreak, e_mCont, e_mAsg, e_mPar, e_gmName, e_gmNil, e_gmCons, e_gmTup, e_gmSub, e_mVar, e_mC, e_mOp, e_mtB, e_mtT, e_mtNot, e_mtAnd, e_mtOr, e_mAnd, e_mOr, e_mAndT, e_mOrT, e_mIf, e_mNotB, e_mChain, e_maNil, e_maCons, e_mTup, e_mCall, e_mFld, e_mProp, e_mMeth, e_mUnO, e_mBinO, e_mCallO, e_mCMeth, e_mRaise, e_mTry, e_mFn, e_mNeg, e_mIsiB, e_mIsiO, e_mFor, e_miRange1, e_miRange2, e_miTup, e_body, e_addII, e_addIB, e_addSS, e_addTT, e_subII, e_mulII, e_fdivII, e_modII, e_powII, e_ltII, e_leII, e_gtII, e_geII, e_is, e_isNot, e_ixT, e_ixS, e_ixD, e_inD, e_fLenS, e_fLenT, e_fMax2, e_fMin2, e_fAbs, e_fIntI, e_fIntB, e_fBoolI, e_fBoolB, e_mExcF, e_tryNil, e_tryCons, e_mBM, e_mEqO, e_mNeO, e_fLenO, e_fBoolO, e_mtTO, e_mInO, e_mNotInO, e_mGetO, e_mtYes, putD, List.getElem?_cons_zero, List.getElem?_cons_succ, List.set_cons_zero, List.set_cons_succ, List.map_cons, List.map_nil, List.length_cons, List.length_nil, List.cons_append, List.nil_append, List.append_nil, List.replicate, Nat.reduceAdd, Nat.reduceSub, Nat.reduceLeDiff, Nat.zero_add, true_and, and_true, reduceIte, Bool.false_eq_true, Bool.true_eq_false, Bool.not_true, Bool.not_false, w_mLst, w_mMake, w_miLst, w_gmUnl, w_mComp, compL_nil, w_compL, w_mSetF, w_addRR]
    refine seq_w w (a := a) (b := b) (by repeat (first | exact List.Mem.head _ | apply List.Mem.tail)) (by repeat (first | exact List.Mem.head _ | apply List.Mem.tail)) hz hz ?_
    refine ix_ok w (y := .ref ra) (by repeat (first | exact List.Mem.head _ | apply List.Mem.tail)) rfl ?_
    try simp only [e_mNext, e_mSeq, e_mExpr, e_mRet, e_mRetN, e_mIfS, e_mBreak, e_mCont, e_mAsg, e_mPar, e_gmName, e_gmNil, e_gmCons, e_gmTup, e_gmSub, e_mVar, e_mC, e_mOp, e_mtB, e_mtT, e_mtNot, e_mtAnd, e_mtOr, e_mAnd, e_mOr, e_mAndT, e_mOrT, e_mIf, e_mNotB, e_mChain, e_maNil, e_maCons, e_mTup, e_mCall, e_mFld, e_mProp, e_mMeth, e_mUnO, e_mBinO, e_mCallO, e_mCMeth, e_mRaise, e_mTry, e_mFn, e_mNeg, e_mIsiB, e_mIsiO, e_mFor, e_miRange1, e_miRange2, e_miTup, e_body, e_addII, e_addIB, e_addSS, e_addTT, e_subII, e_mulII, e_fdivII, e_modII, e_powII, e_ltII, e_leII, e_gtII, e_geII, e_is, e_isNot, e_ixT, e_ixS, e_ixD, e_inD, e_fLenS, e_fLenT, e_fMax2, e_fMin2, e_fAbs, e_fIntI, e_fIntB, e_fBoolI, e_fBoolB, e_mExcF, e_tryNil, e_tryCons, e_mBM, e_mEqO, e_mNeO, e_fLenO, e_fBoolO, e_mtTO, e_mInO, e_mNotInO, e_mGetO, e_mtYes, putD, List.getElem?_cons_zero, List.getElem?_cons_succ, List.set_cons_zero, List.set_cons_succ, List.map_cons, List.map_nil, List.length_cons, List.length_nil, List.cons_append, List.nil_append, List.append_nil, List.replicate, Nat.reduceAdd, Nat.reduceSub, Nat.reduceLeDiff, Nat.zero_add, true_and, and_true, reduceIte, Bool.false_eq_true, Bool.true_eq_false, Bool.not_true, Bool.not_false, w_mLst, w_mMake, w_miLst, w_gmUnl, w_mComp, compL_nil, w_compL, w_mSetF, w_addRR]
    refine ix_ok w (y := .ref rb) (by repeat (first | exact List.Mem.head _ | apply List.Mem.tail)) rfl ?_
    refine mEq_of (tr_pts (k := 0) (w.get (by repeat (first | exact List.Mem.head _ | apply List.Mem.tail)))) (tr_pts (k := 0) (w.get (by repeat (first | exact List.Mem.head _ | apply List.Mem.tail)))) sh_pts sh_pts ?_
    rw [eqv_pts]
    simp only [decide_true, Bool.true_and, mEq_bl, beq_self_eq_true, e_mNext, e_mSeq, e_mExpr, e_mRet, e_mRetN, e_mIfS, e_mBreak, e_mCont, e_mAsg, e_mPar, e_gmName, e_gmNil, e_gmCons, e_gmTup, e_gmSub, e_mVar, e_mC, e_mOp, e_mtB, e_mtT, e_mtNot, e_mtAnd, e_mtOr, e_mAnd, e_mOr, e_mAndT, e_mOrT, e_mIf, e_mNotB, e_mChain, e_maNil, e_maCons, e_mTup, e_mCall, e_mFld, e_mProp, e_mMeth, e_mUnO, e_mBinO, e_mCallO, e_mCMeth, e_mRaise, e_mTry, e_mFn, e_mNeg, e_mIsiB, e_mIsiO, e_mFor, e_miRange1, e_miRange2, e_miTup, e_body, e_addII, e_addIB, e_addSS, e_addTT, e_subII, e_mulII, e_fdivII, e_modII, e_powII, e_ltII, e_leII, e_gtII, e_geII, e_is, e_isNot, e_ixT, e_ixS, e_ixD, e_inD, e_fLenS, e_fLenT, e_fMax2, e_fMin2, e_fAbs, e_fIntI, e_fIntB, e_fBoolI, e_fBoolB, e_mExcF, e_tryNil, e_tryCons, e_mBM, e_mEqO, e_mNeO, e_fLenO, e_fBoolO, e_mtTO, e_mInO, e_mNotInO, e_mGetO, e_mtYes, putD, List.getElem?_cons_zero, List.getElem?_cons_succ, List.set_cons_zero, List.set_cons_succ, List.map_cons, List.map_nil, List.length_cons, List.length_nil, List.cons_append, List.nil_append, List.append_nil, List.replicate, Nat.reduceAdd, Nat.reduceSub, Nat.reduceLeDiff, Nat.zero_add, true_and, and_true, reduceIte, Bool.false_eq_true, Bool.true_eq_false, Bool.not_true, Bool.not_false, w_mLst, w_mMake, w_miLst, w_gmUnl, w_mComp, compL_nil, w_compL, w_mSetF, w_addRR]
    refine sne_w w (a := a) (b := b) (by repeat (first | exact List.Mem.head _ | apply List.Mem.tail)) (by repeat (first | exact List.Mem.head _ | apply List.Mem.tail)) hz ?_
    try simp only [e_mNext, e_mSeq, e_mExpr, e_mRet, e_mRetN, e_mIfS, e_mBreak, e_mCont, e_mAsg, e_mPar, e_gmName, e_gmNil, e_gmCons, e_gmTup, e_gmSub, e_mVar, e_mC, e_mOp, e_mtB, e_mtT, e_mtNot, e_mtAnd, e_mtOr, e_mAnd, e_mOr, e_mAndT, e_mOrT, e_mIf, e_mNotB, e_mChain, e_maNil, e_maCons, e_mTup, e_mCall, e_mFld, e_mProp, e_mMeth, e_mUnO, e_mBinO, e_mCallO, e_mCMeth, e_mRaise, e_mTry, e_mFn, e_mNeg, e_mIsiB, e_mIsiO, e_mFor, e_miRange1, e_miRange2, e_miTup, e_body, e_addII, e_addIB, e_addSS, e_addTT, e_subII, e_mulII, e_fdivII, e_modII, e_powII, e_ltII, e_leII, e_gtII, e_geII, e_is, e_isNot, e_ixT, e_ixS, e_ixD, e_inD, e_fLenS, e_fLenT, e_fMax2, e_fMin2, e_fAbs, e_fIntI, e_fIntB, e_fBoolI, e_fBoolB, e_mExcF, e_tryNil, e_tryCons, e_mBM, e_mEqO, e_mNeO, e_fLenO, e_fBoolO, e_mtTO, e_mInO, e_mNotInO, e_mGetO, e_mtYes, putD, List.getElem?_cons_zero, List.getElem?_cons_succ, List.set_cons_zero, List.set_cons_succ, List.map_cons, List.map_nil, List.length_cons, List.length_nil, List.cons_append, List.nil_append, List.append_nil, List.replicate, Nat.reduceAdd, Nat.reduceSub, Nat.reduceLeDiff, Nat.zero_add, true_and, and_true, reduceIte, Bool.false_eq_true, Bool.true_eq_false, Bool.not_true, Bool.not_false, w_mLst, w_mMake, w_miLst, w_gmUnl, w_mComp, compL_nil, w_compL, w_mSetF, w_addRR]
    refine ix_ok w (y := .ref ra) (by repeat (first | exact List.Mem.head _ | apply List.Mem.tail)) rfl ?_
    try simp only [e_mNext, e_mSeq, e_mExpr, e_mRet, e_mRetN, e_mIfS, e_mBreak, e_mCont, e_mAsg, e_mPar, e_gmName, e_gmNil, e_gmCons, e_gmTup, e_gmSub, e_mVar, e_mC, e_mOp, e_mtB, e_mtT, e_mtNot, e_mtAnd, e_mtOr, e_mAnd, e_mOr, e_mAndT, e_mOrT, e_mIf, e_mNotB, e_mChain, e_maNil, e_maCons, e_mTup, e_mCall, e_mFld, e_mProp, e_mMeth, e_mUnO, e_mBinO, e_mCallO, e_mCMeth, e_mRaise, e_mTry, e_mFn, e_mNeg, e_mIsiB, e_mIsiO, e_mFor, e_miRange1, e_miRange2, e_miTup, e_body, e_addII, e_addIB, e_addSS, e_addTT, e_subII, e_mulII, e_fdivII, e_modII, e_powII, e_ltII, e_leII, e_gtII, e_geII, e_is, e_isNot, e_ixT, e_ixS, e_ixD, e_inD, e_fLenS, e_fLenT, e_fMax2, e_fMin2, e_fAbs, e_fIntI, e_fIntB, e_fBoolI, e_fBoolB, e_mExcF, e_tryNil, e_tryCons, e_mBM, e_mEqO, e_mNeO, e_fLenO, e_fBoolO, e_mtTO, e_mInO, e_mNotInO, e_mGetO, e_mtYes, putD, List.getElem?_cons_zero, List.getElem?_cons_succ, List.set_cons_zero, List.set_cons_succ, List.map_cons, List.map_nil, List.length_cons, List.length_nil, List.cons_append, List.nil_append, List.append_nil, List.replicate, Nat.reduceAdd, Nat.reduceSub, Nat.reduceLeDiff, Nat.zero_add, true_and, and_true, reduceIte, Bool.false_eq_true, Bool.true_eq_false, Bool.not_true, Bool.not_false, w_mLst, w_mMake, w_miLst, w_gmUnl, w_mComp, compL_nil, w_compL, w_mSetF, w_addRR]
    refine ix_ok w (y := .ref rb) (by repeat (first | exact List.Mem.head _ | apply List.Mem.tail)) rfl ?_
    refine mNe_of (tr_pts (k := 0) (w.get (by repeat (first | exact List.Mem.head _ | apply List.Mem.tail)))) (tr_pts (k := 0) (w.get (by repeat (first | exact List.Mem.head _ | apply List.Mem.tail)))) sh_pts sh_pts ?_
    rw [eqv_pts]
    simp only [decide_true, Bool.true_and, mEq_bl, beq_self_eq_true, e_mNext, e_mSeq, e_mExpr, e_mRet, e_mRetN, e_mIfS, e_mBreak, e_mCont, e_mAsg, e_mPar, e_gmName, e_gmNil, e_gmCons, e_gmTup, e_gmSub, e_mVar, e_mC, e_mOp, e_mtB, e_mtT, e_mtNot, e_mtAnd, e_mtOr, e_mAnd, e_mOr, e_mAndT, e_mOrT, e_mIf, e_mNotB, e_mChain, e_maNil, e_maCons, e_mTup, e_mCall, e_mFld, e_mProp, e_mMeth, e_mUnO, e_mBinO, e_mCallO, e_mCMeth, e_mRaise, e_mTry, e_mFn, e_mNeg, e_mIsiB, e_mIsiO, e_mFor, e_miRange1, e_miRange2, e_miTup, e_body, e_addII, e_addIB, e_addSS, e_addTT, e_subII, e_mulII, e_fdivII, e_modII, e_powII, e_ltII, e_leII, e_gtII, e_geII, e_is, e_isNot, e_ixT, e_ixS, e_ixD, e_inD, e_fLenS, e_fLenT, e_fMax2, e_fMin2, e_fAbs, e_fIntI, e_fIntB, e_fBoolI, e_fBoolB, e_mExcF, e_tryNil, e_tryCons, e_mBM, e_mEqO, e_mNeO, e_fLenO, e_fBoolO, e_mtTO, e_mInO, e_mNotInO, e_mGetO, e_mtYes, putD, List.getElem?_cons_zero, List.getElem?_cons_succ, List.set_cons_zero, List.set_cons_succ, List.map_cons, List.map_nil, List.length_cons, List.length_nil, List.cons_append, List.nil_append, List.append_nil, List.replicate, Nat.reduceAdd, Nat.reduceSub, Nat.reduceLeDiff, Nat.zero_add, true_and, and_true, reduceIte, Bool.false_eq_true, Bool.true_eq_false, Bool.not_true, Bool.not_false, w_mLst, w_mMake, w_miLst, w_gmUnl, w_mComp, compL_nil, w_compL, w_mSetF, w_addRR]
    exact h _ (w.sub fun _ _ m => .tail _ (.tail _ (.tail _ m)))
  · rintro d is sd S' ⟨hp, ⟨e7, e8, rfl⟩, w⟩ ih
    refine ⟨w.get (by repeat (first | exact List.Mem.head _ | apply List.Mem.tail)), ?_⟩
    obtain ⟨p, rfl⟩ := hp d List.mem_cons_self
    try simp only [e_mNext, e_mSeq, e_mExpr, e_mRet, e_mRetN, e_mIfS, e_mBreak, e_mCont, e_mAsg, e_mPar, e_gmName, e_gmNil, e_gmCons, e_gmTup, e_gmSub, e_mVar, e_mC, e_mOp, e_mtB, e_mtT, e_mtNot, e_mtAnd, e_mtOr, e_mAnd, e_mOr, e_mAndT, e_mOrT, e_mIf, e_mNotB, e_mChain, e_maNil, e_maCons, e_mTup, e_mCall, e_mFld, e_mProp, e_mMeth, e_mUnO, e_mBinO, e_mCallO, e_mCMeth, e_mRaise, e_mTry, e_mFn, e_mNeg, e_mIsiB, e_mIsiO, e_mFor, e_miRange1, e_miRange2, e_miTup, e_body, e_addII, e_addIB, e_addSS, e_addTT, e_subII, e_mulII, e_fdivII, e_modII, e_powII, e_ltII, e_leII, e_gtII, e_geII, e_is, e_isNot, e_ixT, e_ixS, e_ixD, e_inD, e_fLenS, e_fLenT, e_fMax2, e_fMin2, e_fAbs, e_fIntI, e_fIntB, e_fBoolI, e_fBoolB, e_mExcF, e_tryNil, e_tryCons, e_mBM, e_mEqO, e_mNeO, e_fLenO, e_fBoolO, e_mtTO, e_mInO, e_mNotInO, e_mGetO, e_mtYes, putD, List.getElem?_cons_zero, List.getElem?_cons_succ, List.set_cons_zero, List.set_cons_succ, List.map_cons, List.map_nil, List.length_cons, List.length_nil, List.cons_append, List.nil_append, List.append_nil, List.replicate, Nat.reduceAdd, Nat.reduceSub, Nat.reduceLeDiff, Nat.zero_add, true_and, and_true, reduceIte, Bool.false_eq_true, Bool.true_eq_false, Bool.not_true, Bool.not_false, w_mLst, w_mMake, w_miLst, w_gmUnl, w_mComp, compL_nil, w_compL, w_mSetF, w_addRR]
    refine scall_w w (a := a.mul z b) (by repeat (first | exact List.Mem.head _ | apply List.Mem.tail)) hz Sy.ok_mul ?_
    try simp only [e_mNext, e_mSeq, e_mExpr, e_mRet, e_mRetN, e_mIfS, e_mBreak, e_mCont, e_mAsg, e_mPar, e_gmName, e_gmNil, e_gmCons, e_gmTup, e_gmSub, e_mVar, e_mC, e_mOp, e_mtB, e_mtT, e_mtNot, e_mtAnd, e_mtOr, e_mAnd, e_mOr, e_mAndT, e_mOrT, e_mIf, e_mNotB, e_mChain, e_maNil, e_maCons, e_mTup, e_mCall, e_mFld, e_mProp, e_mMeth, e_mUnO, e_mBinO, e_mCallO, e_mCMeth, e_mRaise, e_mTry, e_mFn, e_mNeg, e_mIsiB, e_mIsiO, e_mFor, e_miRange1, e_miRange2, e_miTup, e_body, e_addII, e_addIB, e_addSS, e_addTT, e_subII, e_mulII, e_fdivII, e_modII, e_powII, e_ltII, e_leII, e_gtII, e_geII, e_is, e_isNot, e_ixT, e_ixS, e_ixD, e_inD, e_fLenS, e_fLenT, e_fMax2, e_fMin2, e_fAbs, e_fIntI, e_fIntB, e_fBoolI, e_fBoolB, e_mExcF, e_tryNil, e_tryCons, e_mBM, e_mEqO, e_mNeO, e_fLenO, e_fBoolO, e_mtTO, e_mInO, e_mNotInO, e_mGetO, e_mtYes, putD, List.getElem?_cons_zero, List.getElem?_cons_succ, List.set_cons_zero, List.set_cons_succ, List.map_cons, List.map_nil, List.length_cons, List.length_nil, List.cons_append, List.nil_append, List.append_nil, List.replicate, Nat.reduceAdd, Nat.reduceSub, Nat.reduceLeDiff, Nat.zero_add, true_and, and_true, reduceIte, Bool.false_eq_true, Bool.true_eq_false, Bool.not_true, Bool.not_false, w_mLst, w_mMake, w_miLst, w_gmUnl, w_mComp, compL_nil, w_compL, w_mSetF, w_addRR]
    refine insS_w w (a := b) (by repeat (first | exact List.Mem.head _ | apply List.Mem.tail)) ?_
    refine scall_w w (a := a) (by repeat (first | exact List.Mem.head _ | apply List.Mem.tail)) hz ha ?_
    refine insS_w w (a := b) (by repeat (first | exact List.Mem.head _ | apply List.Mem.tail)) (scall_core w (a := b) (by repeat (first | exact List.Mem.head _ | apply List.Mem.tail)) hz hb ?_)
    rw [Sy.at_mul hz, mNe_pl]
    try simp only [e_mNext, e_mSeq, e_mExpr, e_mRet, e_mRetN, e_mIfS, e_mBreak, e_mCont, e_mAsg, e_mPar, e_gmName, e_gmNil, e_gmCons, e_gmTup, e_gmSub, e_mVar, e_mC, e_mOp, e_mtB, e_mtT, e_mtNot, e_mtAnd, e_mtOr, e_mAnd, e_mOr, e_mAndT, e_mOrT, e_mIf, e_mNotB, e_mChain, e_maNil, e_maCons, e_mTup, e_mCall, e_mFld, e_mProp, e_mMeth, e_mUnO, e_mBinO, e_mCallO, e_mCMeth, e_mRaise, e_mTry, e_mFn, e_mNeg, e_mIsiB, e_mIsiO, e_mFor, e_miRange1, e_miRange2, e_miTup, e_body, e_addII, e_addIB, e_addSS, e_addTT, e_subII, e_mulII, e_fdivII, e_modII, e_powII, e_ltII, e_leII, e_gtII, e_geII, e_is, e_isNot, e_ixT, e_ixS, e_ixD, e_inD, e_fLenS, e_fLenT, e_fMax2, e_fMin2, e_fAbs, e_fIntI, e_fIntB, e_fBoolI, e_fBoolB, e_mExcF, e_tryNil, e_tryCons, e_mBM, e_mEqO, e_mNeO, e_fLenO, e_fBoolO, e_mtTO, e_mInO, e_mNotInO, e_mGetO, e_mtYes, putD, List.getElem?_cons_zero, List.getElem?_cons_succ, List.set_cons_zero, List.set_cons_succ, List.map_cons, List.map_nil, List.length_cons, List.length_nil, List.cons_append, List.nil_append, List.append_nil, List.replicate, Nat.reduceAdd, Nat.reduceSub, Nat.reduceLeDiff, Nat.zero_add, true_and, and_true, reduceIte, Bool.false_eq_true, Bool.true_eq_false, Bool.not_true, Bool.not_false, w_mLst, w_mMake, w_miLst, w_gmUnl, w_mComp, compL_nil, w_compL, w_mSetF, w_addRR]
    exact ih _ _ ⟨fun y hy => hp y (List.mem_cons_of_mem _ hy), ⟨_, _, rfl⟩, w⟩
theorem parts_w (w : W n B L S) (hz : Net z) (h1 : 1 ≤ wide) (h2 : wide < 10 ^ 31) (h : ∀ i S' (a : Sy), a.ok z → W n B ((i, .lst (pts a)) :: L) S' → q (.ref i) S') : u__law_parts [.ref n, .str z, .int wide] S q x := by
  have lg : (2 * wide + 1).natAbs.log2 < 9000 := Nat.lt_trans (PySem.Flt.log2_lt_of (show 0 < 110 by decide) (show (2 * wide + 1).natAbs < 2 ^ 110 from Nat.lt_of_lt_of_le (m := 10 ^ 32) (by omega) (by decide))) (by decide)
  rw [e_u__law_parts, e_b__law_parts]
  simp only [e_mNext, e_mSeq, e_mExpr, e_mRet, e_mRetN, e_mIfS, e_mBreak, e_mCont, e_mAsg, e_mPar, e_gmName, e_gmNil, e_gmCons, e_gmTup, e_gmSub, e_mVar, e_mC, e_mOp, e_mtB, e_mtT, e_mtNot, e_mtAnd, e_mtOr, e_mAnd, e_mOr, e_mAndT, e_mOrT, e_mIf, e_mNotB, e_mChain, e_maNil, e_maCons, e_mTup, e_mCall, e_mFld, e_mProp, e_mMeth, e_mUnO, e_mBinO, e_mCallO, e_mCMeth, e_mRaise, e_mTry, e_mFn, e_mNeg, e_mIsiB, e_mIsiO, e_mFor, e_miRange1, e_miRange2, e_miTup, e_body, e_addII, e_addIB, e_addSS, e_addTT, e_subII, e_mulII, e_fdivII, e_modII, e_powII, e_ltII, e_leII, e_gtII, e_geII, e_is, e_isNot, e_ixT, e_ixS, e_ixD, e_inD, e_fLenS, e_fLenT, e_fMax2, e_fMin2, e_fAbs, e_fIntI, e_fIntB, e_fBoolI, e_fBoolB, e_mExcF, e_tryNil, e_tryCons, e_mBM, e_mEqO, e_mNeO, e_fLenO, e_fBoolO, e_mtTO, e_mInO, e_mNotInO, e_mGetO, e_mtYes, putD, List.getElem?_cons_zero, List.getElem?_cons_succ, List.set_cons_zero, List.set_cons_succ, List.map_cons, List.map_nil, List.length_cons, List.length_nil, List.cons_append, List.nil_append, List.append_nil, List.replicate, Nat.reduceAdd, Nat.reduceSub, Nat.reduceLeDiff, Nat.zero_add, true_and, and_true, reduceIte, Bool.false_eq_true, Bool.true_eq_false, Bool.not_true, Bool.not_false, w_mLst, w_mMake, w_miLst, w_gmUnl, w_mComp, compL_nil, w_compL, w_mSetF, w_addRR]
  refine ⟨cmul_l (by decide) (by decide), ?_⟩
  refine drwL_w w (by omega) lg fun d1 S1 _ _ w => ?_
  try simp only [e_mNext, e_mSeq, e_mExpr, e_mRet, e_mRetN, e_mIfS, e_mBreak, e_mCont, e_mAsg, e_mPar, e_gmName, e_gmNil, e_gmCons, e_gmTup, e_gmSub, e_mVar, e_mC, e_mOp, e_mtB, e_mtT, e_mtNot, e_mtAnd, e_mtOr, e_mAnd, e_mOr, e_mAndT, e_mOrT, e_mIf, e_mNotB, e_mChain, e_maNil, e_maCons, e_mTup, e_mCall, e_mFld, e_mProp, e_mMeth, e_mUnO, e_mBinO, e_mCallO, e_mCMeth, e_mRaise, e_mTry, e_mFn, e_mNeg, e_mIsiB, e_mIsiO, e_mFor, e_miRange1, e_miRange2, e_miTup, e_body, e_addII, e_addIB, e_addSS, e_addTT, e_subII, e_mulII, e_fdivII, e_modII, e_powII, e_ltII, e_leII, e_gtII, e_geII, e_is, e_isNot, e_ixT, e_ixS, e_ixD, e_inD, e_fLenS, e_fLenT, e_fMax2, e_fMin2, e_fAbs, e_fIntI, e_fIntB, e_fBoolI, e_fBoolB, e_mExcF, e_tryNil, e_tryCons, e_mBM, e_mEqO, e_mNeO, e_fLenO, e_fBoolO, e_mtTO, e_mInO, e_mNotInO, e_mGetO, e_mtYes, putD, List.getElem?_cons_zero, List.getElem?_cons_succ, List.set_cons_zero, List.set_cons_succ, List.map_cons, List.map_nil, List.length_cons, List.length_nil, List.cons_append, List.nil_append, List.append_nil, List.replicate, Nat.reduceAdd, Nat.reduceSub, Nat.reduceLeDiff, Nat.zero_add, true_and, and_true, reduceIte, Bool.false_eq_true, Bool.true_eq_false, Bool.not_true, Bool.not_false, w_mLst, w_mMake, w_miLst, w_gmUnl, w_mComp, compL_nil, w_compL, w_mSetF, w_addRR]
  refine ⟨cmul_l (by decide) (by decide), ?_⟩
  refine drwL_w w (by omega) lg fun d2 S2 _ _ w => ?_
  try simp only [e_mNext, e_mSeq, e_mExpr, e_mRet, e_mRetN, e_mIfS, e_mBreak, e_mCont, e_mAsg, e_mPar, e_gmName, e_gmNil, e_gmCons, e_gmTup, e_gmSub, e_mVar, e_mC, e_mOp, e_mtB, e_mtT, e_mtNot, e_mtAnd, e_mtOr, e_mAnd, e_mOr, e_mAndT, e_mOrT, e_mIf, e_mNotB, e_mChain, e_maNil, e_maCons, e_mTup, e_mCall, e_mFld, e_mProp, e_mMeth, e_mUnO, e_mBinO, e_mCallO, e_mCMeth, e_mRaise, e_mTry, e_mFn, e_mNeg, e_mIsiB, e_mIsiO, e_mFor, e_miRange1, e_miRange2, e_miTup, e_body, e_addII, e_addIB, e_addSS, e_addTT, e_subII, e_mulII, e_fdivII, e_modII, e_powII, e_ltII, e_leII, e_gtII, e_geII, e_is, e_isNot, e_ixT, e_ixS, e_ixD, e_inD, e_fLenS, e_fLenT, e_fMax2, e_fMin2, e_fAbs, e_fIntI, e_fIntB, e_fBoolI, e_fBoolB, e_mExcF, e_tryNil, e_tryCons, e_mBM, e_mEqO, e_mNeO, e_fLenO, e_fBoolO, e_mtTO, e_mInO, e_mNotInO, e_mGetO, e_mtYes, putD, List.getElem?_cons_zero, List.getElem?_cons_succ, List.set_cons_zero, List.set_cons_succ, List.map_cons, List.map_nil, List.length_cons, List.length_nil, List.cons_append, List.nil_append, List.append_nil, List.replicate, Nat.reduceAdd, Nat.reduceSub, Nat.reduceLeDiff, Nat.zero_add, true_and, and_true, reduceIte, Bool.false_eq_true, Bool.true_eq_false, Bool.not_true, Bool.not_false, w_mLst, w_mMake, w_miLst, w_gmUnl, w_mComp, compL_nil, w_compL, w_mSetF, w_addRR]
  refine ⟨(sl_pos (by simp)), ?_⟩
  refine steps2_w w hz fun i1 S3 w => ?_
  refine len_ok w (by repeat (first | exact List.Mem.head _ | apply List.Mem.tail)) ?_
  rw [stpD_len hz]
  try simp only [e_mNext, e_mSeq, e_mExpr, e_mRet, e_mRetN, e_mIfS, e_mBreak, e_mCont, e_mAsg, e_mPar, e_gmName, e_gmNil, e_gmCons, e_gmTup, e_gmSub, e_mVar, e_mC, e_mOp, e_mtB, e_mtT, e_mtNot, e_mtAnd, e_mtOr, e_mAnd, e_mOr, e_mAndT, e_mOrT, e_mIf, e_mNotB, e_mChain, e_maNil, e_maCons, e_mTup, e_mCall, e_mFld, e_mProp, e_mMeth, e_mUnO, e_mBinO, e_mCallO, e_mCMeth, e_mRaise, e_mTry, e_mFn, e_mNeg, e_mIsiB, e_mIsiO, e_mFor, e_miRange1, e_miRange2, e_miTup, e_body, e_addII, e_addIB, e_addSS, e_addTT, e_subII, e_mulII, e_fdivII, e_modII, e_powII, e_ltII, e_leII, e_gtII, e_geII, e_is, e_isNot, e_ixT, e_ixS, e_ixD, e_inD, e_fLenS, e_fLenT, e_fMax2, e_fMin2, e_fAbs, e_fIntI, e_fIntB, e_fBoolI, e_fBoolB, e_mExcF, e_tryNil, e_tryCons, e_mBM, e_mEqO, e_mNeO, e_fLenO, e_fBoolO, e_mtTO, e_mInO, e_mNotInO, e_mGetO, e_mtYes, putD, List.getElem?_cons_zero, List.getElem?_cons_succ, List.set_cons_zero, List.set_cons_succ, List.map_cons, List.map_nil, List.length_cons, List.length_nil, List.cons_append, List.nil_append, List.append_nil, List.replicate, Nat.reduceAdd, Nat.reduceSub, Nat.reduceLeDiff, Nat.zero_add, true_and, and_true, reduceIte, Bool.false_eq_true, Bool.true_eq_false, Bool.not_true, Bool.not_false, w_mLst, w_mMake, w_miLst, w_gmUnl, w_mComp, compL_nil, w_compL, w_mSetF, w_addRR]
  have hk := hc_pos z
  have hl := hc_le z
  refine drw_w w hk (by omega) fun d3 S4 a3 b3 w => ?_
  try simp only [e_mNext, e_mSeq, e_mExpr, e_mRet, e_mRetN, e_mIfS, e_mBreak, e_mCont, e_mAsg, e_mPar, e_gmName, e_gmNil, e_gmCons, e_gmTup, e_gmSub, e_mVar, e_mC, e_mOp, e_mtB, e_mtT, e_mtNot, e_mtAnd, e_mtOr, e_mAnd, e_mOr, e_mAndT, e_mOrT, e_mIf, e_mNotB, e_mChain, e_maNil, e_maCons, e_mTup, e_mCall, e_mFld, e_mProp, e_mMeth, e_mUnO, e_mBinO, e_mCallO, e_mCMeth, e_mRaise, e_mTry, e_mFn, e_mNeg, e_mIsiB, e_mIsiO, e_mFor, e_miRange1, e_miRange2, e_miTup, e_body, e_addII, e_addIB, e_addSS, e_addTT, e_subII, e_mulII, e_fdivII, e_modII, e_powII, e_ltII, e_leII, e_gtII, e_geII, e_is, e_isNot, e_ixT, e_ixS, e_ixD, e_inD, e_fLenS, e_fLenT, e_fMax2, e_fMin2, e_fAbs, e_fIntI, e_fIntB, e_fBoolI, e_fBoolB, e_mExcF, e_tryNil, e_tryCons, e_mBM, e_mEqO, e_mNeO, e_fLenO, e_fBoolO, e_mtTO, e_mInO, e_mNotInO, e_mGetO, e_mtYes, putD, List.getElem?_cons_zero, List.getElem?_cons_succ, List.set_cons_zero, List.set_cons_succ, List.map_cons, List.map_nil, List.length_cons, List.length_nil, List.cons_append, List.nil_append, List.append_nil, List.replicate, Nat.reduceAdd, Nat.reduceSub, Nat.reduceLeDiff, Nat.zero_add, true_and, and_true, reduceIte, Bool.false_eq_true, Bool.true_eq_false, Bool.not_true, Bool.not_false, w_mLst, w_mMake, w_miLst, w_gmUnl, w_mComp, compL_nil, w_compL, w_mSetF, w_addRR]
  refine drw_w w (by decide) (by decide) fun d4 S5 a4 b4 w => ?_
  simp only [mEq_int']
  refine ⟨(sl_pos (by simp)), ?_⟩
  intro j S6 e1 e2
  replace w := w.new e1 e2
  exact h j S6 ⟨(d1 - wide, d2 - wide), d3, d4 == 1⟩ ⟨a3, b3⟩ (w.sub fun i o m => by
    rcases List.mem_cons.mp m with e | m
    · rw [e]; exact List.mem_cons_self ..
    · exact .tail _ (.tail _ m))
def oth (z : Str) : Str := if z = "square" then "triangle" else "square"
theorem law3 (w : W n B L S) (hz : Net z) (h : ∀ S', W n B L S' → md.nx [c0, c1, c2, some (.str z), c4, c5, c6, c7, some (.str (oth z)), c9] S') :
    b_law_3 md [c0, c1, c2, some (.str z), c4, c5, c6, c7, some (.str (oth z)), c9] S := by
  have hz2 : Net (oth z) := by
    unfold oth
    split
    · exact .inr rfl
    · exact .inl rfl
  have ne : z ≠ oth z := by
    unfold oth
    rcases hz with rfl | rfl
    · rw [if_pos rfl]; intro e; exact absurd e (by decide)
    · rw [if_neg (by rw [tri_ne]; exact id)]; intro e; rw [tri_ne] at e; exact e
  have one_lt : ∀ z, (1 : Int) < hc z := fun z => by unfold hc; split <;> decide
  rw [e_b_law_3]
  simp only [e_mNext, e_mSeq, e_mExpr, e_mRet, e_mRetN, e_mIfS, e_mBreak, e_mCont, e_mAsg, e_mPar, e_gmName, e_gmNil, e_gmCons, e_gmTup, e_gmSub, e_mVar, e_mC, e_mOp, e_mtB, e_mtT, e_mtNot, e_mtAnd, e_mtOr, e_mAnd, e_mOr, e_mAndT, e_mOrT, e_mIf, e_mNotB, e_mChain, e_maNil, e_maCons, e_mTup, e_mCall, e_mFld, e_mProp, e_mMeth, e_mUnO, e_mBinO, e_mCallO, e_mCMeth, e_mRaise, e_mTry, e_mFn, e_mNeg, e_mIsiB, e_mIsiO, e_mFor, e_miRange1, e_miRange2, e_miTup, e_body, e_addII, e_addIB, e_addSS, e_addTT, e_subII, e_mulII, e_fdivII, e_modII, e_powII, e_ltII, e_leII, e_gtII, e_geII, e_is, e_isNot, e_ixT, e_ixS, e_ixD, e_inD, e_fLenS, e_fLenT, e_fMax2, e_fMin2, e_fAbs, e_fIntI, e_fIntB, e_fBoolI, e_fBoolB, e_mExcF, e_tryNil, e_tryCons, e_mBM, e_mEqO, e_mNeO, e_fLenO, e_fBoolO, e_mtTO, e_mInO, e_mNotInO, e_mGetO, e_mtYes, putD, List.getElem?_cons_zero, List.getElem?_cons_succ, List.set_cons_zero, List.set_cons_succ, List.map_cons, List.map_nil, List.length_cons, List.length_nil, List.cons_append, List.nil_append, List.append_nil, List.replicate, Nat.reduceAdd, Nat.reduceSub, Nat.reduceLeDiff, Nat.zero_add, true_and, and_true, reduceIte, Bool.false_eq_true, Bool.true_eq_false, Bool.not_true, Bool.not_false, w_mLst, w_mMake, w_miLst, w_gmUnl, w_mComp, compL_nil, w_compL, w_mSetF, w_addRR]
  refine ⟨(sl_pos (by simp)), ?_⟩
  intro j1 S1 e1 e2
  refine syw (p := (1, 0)) w e1 e2 hz (by decide) (one_lt z) fun S2 w => ⟨rfl, ?_⟩
  refine ⟨(sl_pos (by simp)), ?_⟩
  intro j2 S3 e1 e2
  refine syw (p := (1, 0)) w e1 e2 hz2 (by decide) (one_lt _) fun S4 w => ⟨rfl, ?_⟩
  refine seq_w w (z := z) (z2 := oth z) (a := ⟨(1, 0), 1, false⟩) (b := ⟨(1, 0), 1, false⟩) (by repeat (first | exact List.Mem.head _ | apply List.Mem.tail)) (by repeat (first | exact List.Mem.head _ | apply List.Mem.tail)) hz hz2 ?_
  simp only [ne, decide_false, Bool.false_and, e_mNext, e_mSeq, e_mExpr, e_mRet, e_mRetN, e_mIfS, e_mBreak, e_mCont, e_mAsg, e_mPar, e_gmName, e_gmNil, e_gmCons, e_gmTup, e_gmSub, e_mVar, e_mC, e_mOp, e_mtB, e_mtT, e_mtNot, e_mtAnd, e_mtOr, e_mAnd, e_mOr, e_mAndT, e_mOrT, e_mIf, e_mNotB, e_mChain, e_maNil, e_maCons, e_mTup, e_mCall, e_mFld, e_mProp, e_mMeth, e_mUnO, e_mBinO, e_mCallO, e_mCMeth, e_mRaise, e_mTry, e_mFn, e_mNeg, e_mIsiB, e_mIsiO, e_mFor, e_miRange1, e_miRange2, e_miTup, e_body, e_addII, e_addIB, e_addSS, e_addTT, e_subII, e_mulII, e_fdivII, e_modII, e_powII, e_ltII, e_leII, e_gtII, e_geII, e_is, e_isNot, e_ixT, e_ixS, e_ixD, e_inD, e_fLenS, e_fLenT, e_fMax2, e_fMin2, e_fAbs, e_fIntI, e_fIntB, e_fBoolI, e_fBoolB, e_mExcF, e_tryNil, e_tryCons, e_mBM, e_mEqO, e_mNeO, e_fLenO, e_fBoolO, e_mtTO, e_mInO, e_mNotInO, e_mGetO, e_mtYes, putD, List.getElem?_cons_zero, List.getElem?_cons_succ, List.set_cons_zero, List.set_cons_succ, List.map_cons, List.map_nil, List.length_cons, List.length_nil, List.cons_append, List.nil_append, List.append_nil, List.replicate, Nat.reduceAdd, Nat.reduceSub, Nat.reduceLeDiff, Nat.zero_add, true_and, and_true, reduceIte, Bool.false_eq_true, Bool.true_eq_false, Bool.not_true, Bool.not_false, w_mLst, w_mMake, w_miLst, w_gmUnl, w_mComp, compL_nil, w_compL, w_mSetF, w_addRR]
  refine ⟨(sl_pos (by simp)), ?_⟩
  intro j3 S5 e1 e2
  refine syw (p := (0, 0)) w e1 e2 hz (by decide) (hc_pos z) fun S6 w => ⟨rfl, ?_⟩
  refine ⟨(sl_pos (by simp)), ?_⟩
  refine insS_w w (a := ⟨(0, 0), 0, false⟩) (by repeat (first | exact List.Mem.head _ | apply List.Mem.tail)) ?_
  refine ⟨by simp only [okE, tyD], ?_⟩
  rw [seq_no (s := "tuple") (by simp only [tyD])]
  simp only [e_mNext, e_mSeq, e_mExpr, e_mRet, e_mRetN, e_mIfS, e_mBreak, e_mCont, e_mAsg, e_mPar, e_gmName, e_gmNil, e_gmCons, e_gmTup, e_gmSub, e_mVar, e_mC, e_mOp, e_mtB, e_mtT, e_mtNot, e_mtAnd, e_mtOr, e_mAnd, e_mOr, e_mAndT, e_mOrT, e_mIf, e_mNotB, e_mChain, e_maNil, e_maCons, e_mTup, e_mCall, e_mFld, e_mProp, e_mMeth, e_mUnO, e_mBinO, e_mCallO, e_mCMeth, e_mRaise, e_mTry, e_mFn, e_mNeg, e_mIsiB, e_mIsiO, e_mFor, e_miRange1, e_miRange2, e_miTup, e_body, e_addII, e_addIB, e_addSS, e_addTT, e_subII, e_mulII, e_fdivII, e_modII, e_powII, e_ltII, e_leII, e_gtII, e_geII, e_is, e_isNot, e_ixT, e_ixS, e_ixD, e_inD, e_fLenS, e_fLenT, e_fMax2, e_fMin2, e_fAbs, e_fIntI, e_fIntB, e_fBoolI, e_fBoolB, e_mExcF, e_tryNil, e_tryCons, e_mBM, e_mEqO, e_mNeO, e_fLenO, e_fBoolO, e_mtTO, e_mInO, e_mNotInO, e_mGetO, e_mtYes, putD, List.getElem?_cons_zero, List.getElem?_cons_succ, List.set_cons_zero, List.set_cons_succ, List.map_cons, List.map_nil, List.length_cons, List.length_nil, List.cons_append, List.nil_append, List.append_nil, List.replicate, Nat.reduceAdd, Nat.reduceSub, Nat.reduceLeDiff, Nat.zero_add, true_and, and_true, reduceIte, Bool.false_eq_true, Bool.true_eq_false, Bool.not_true, Bool.not_false, w_mLst, w_mMake, w_miLst, w_gmUnl, w_mComp, compL_nil, w_compL, w_mSetF, w_addRR]
  exact h S6 (w.sub fun _ _ m => .tail _ (.tail _ (.tail _ m)))
theorem law4 (w : W n B L S) (hz : Net z) (h : ∀ S' e8, W n B L S' → md.nx [c0, c1, c2, some (.str z), c4, c5, c6, c7, e8, c9] S') :
    b_law_4 md [c0, c1, c2, some (.str z), c4, c5, c6, c7, c8, c9] S := by
  rw [e_b_law_4]
  simp only [e_mNext, e_mSeq, e_mExpr, e_mRet, e_mRetN, e_mIfS, e_mBreak, e_mCont, e_mAsg, e_mPar, e_gmName, e_gmNil, e_gmCons, e_gmTup, e_gmSub, e_mVar, e_mC, e_mOp, e_mtB, e_mtT, e_mtNot, e_mtAnd, e_mtOr, e_mAnd, e_mOr, e_mAndT, e_mOrT, e_mIf, e_mNotB, e_mChain, e_maNil, e_maCons, e_mTup, e_mCall, e_mFld, e_mProp, e_mMeth, e_mUnO, e_mBinO, e_mCallO, e_mCMeth, e_mRaise, e_mTry, e_mFn, e_mNeg, e_mIsiB, e_mIsiO, e_mFor, e_miRange1, e_miRange2, e_miTup, e_body, e_addII, e_addIB, e_addSS, e_addTT, e_subII, e_mulII, e_fdivII, e_modII, e_powII, e_ltII, e_leII, e_gtII, e_geII, e_is, e_isNot, e_ixT, e_ixS, e_ixD, e_inD, e_fLenS, e_fLenT, e_fMax2, e_fMin2, e_fAbs, e_fIntI, e_fIntB, e_fBoolI, e_fBoolB, e_mExcF, e_tryNil, e_tryCons, e_mBM, e_mEqO, e_mNeO, e_fLenO, e_fBoolO, e_mtTO, e_mInO, e_mNotInO, e_mGetO, e_mtYes, putD, List.getElem?_cons_zero, List.getElem?_cons_succ, List.set_cons_zero, List.set_cons_succ, List.map_cons, List.map_nil, List.length_cons, List.length_nil, List.cons_append, List.nil_append, List.append_nil, List.replicate, Nat.reduceAdd, Nat.reduceSub, Nat.reduceLeDiff, Nat.zero_add, true_and, and_true, reduceIte, Bool.false_eq_true, Bool.true_eq_false, Bool.not_true, Bool.not_false, w_mLst, w_mMake, w_miLst, w_gmUnl, w_mComp, compL_nil, w_compL, w_mSetF, w_addRR]
  refine ⟨(sl_pos (by simp)), ?_⟩
  intro j1 S1 e1 e2
  replace w := w.new e1 e2
  rw [mEq_str (strOk_net hz) (by decide +kernel)]
  simp only [e_mNext, e_mSeq, e_mExpr, e_mRet, e_mRetN, e_mIfS, e_mBreak, e_mCont, e_mAsg, e_mPar, e_gmName, e_gmNil, e_gmCons, e_gmTup, e_gmSub, e_mVar, e_mC, e_mOp, e_mtB, e_mtT, e_mtNot, e_mtAnd, e_mtOr, e_mAnd, e_mOr, e_mAndT, e_mOrT, e_mIf, e_mNotB, e_mChain, e_maNil, e_maCons, e_mTup, e_mCall, e_mFld, e_mProp, e_mMeth, e_mUnO, e_mBinO, e_mCallO, e_mCMeth, e_mRaise, e_mTry, e_mFn, e_mNeg, e_mIsiB, e_mIsiO, e_mFor, e_miRange1, e_miRange2, e_miTup, e_body, e_addII, e_addIB, e_addSS, e_addTT, e_subII, e_mulII, e_fdivII, e_modII, e_powII, e_ltII, e_leII, e_gtII, e_geII, e_is, e_isNot, e_ixT, e_ixS, e_ixD, e_inD, e_fLenS, e_fLenT, e_fMax2, e_fMin2, e_fAbs, e_fIntI, e_fIntB, e_fBoolI, e_fBoolB, e_mExcF, e_tryNil, e_tryCons, e_mBM, e_mEqO, e_mNeO, e_fLenO, e_fBoolO, e_mtTO, e_mInO, e_mNotInO, e_mGetO, e_mtYes, putD, List.getElem?_cons_zero, List.getElem?_cons_succ, List.set_cons_zero, List.set_cons_succ, List.map_cons, List.map_nil, List.length_cons, List.length_nil, List.cons_append, List.nil_append, List.append_nil, List.replicate, Nat.reduceAdd, Nat.reduceSub, Nat.reduceLeDiff, Nat.zero_add, true_and, and_true, reduceIte, Bool.false_eq_true, Bool.true_eq_false, Bool.not_true, Bool.not_false, w_mLst, w_mMake, w_miLst, w_gmUnl, w_mComp, compL_nil, w_compL, w_mSetF, w_addRR]
  have e : L2.atI [D.str "square", .str "triangle"] (if (z == "square") = true then 1 else 0) = some (.str (oth z)) := by
    unfold oth
    rcases hz with rfl | rfl
    · simp only [beq_self_eq_true, if_true]; rfl
    · have e : (("triangle" : Str) == "square") = false := by decide
      simp only [e, tri_ne, if_false, Bool.false_eq_true]; rfl
  refine ix_ok w (by repeat (first | exact List.Mem.head _ | apply List.Mem.tail)) e ?_
  exact law3 w hz fun S' w => h S' _ (w.sub fun _ _ m => .tail _ m)
theorem law5 (w : W n B ((sp, .lst ds) :: LR jr ra rb rc a b c) S) (hz : Net z) (ha : a.ok z) (hb : b.ok z) (hc : c.ok z) (hd : ∀ d ∈ ds, ∃ p, d = pD p) (hl : ds.length ≤ 900) (h : ∀ S' e8, W n B [] S' → md.nx [c0, c1, c2, some (.str z), c4, some (.ref jr), some (.ref sp), c7, e8, c9] S') :
    b_law_5 md [c0, c1, c2, some (.str z), c4, some (.ref jr), some (.ref sp), c7, c8, c9] S := by
  rw [e_b_law_5]
  simp only [e_mNext, e_mSeq, e_mExpr, e_mRet, e_mRetN, e_mIfS, e_mBreak, e_mCont, e_mAsg, e_mPar, e_gmName, e_gmNil, e_gmCons, e_gmTup, e_gmSub, e_mVar, e_mC, e_mOp, e_mtB, e_mtT, e_mtNot, e_mtAnd, e_mtOr, e_mAnd, e_mOr, e_mAndT, e_mOrT, e_mIf, e_mNotB, e_mChain, e_maNil, e_maCons, e_mTup, e_mCall, e_mFld, e_mProp, e_mMeth, e_mUnO, e_mBinO, e_mCallO, e_mCMeth, e_mRaise, e_mTry, e_mFn, e_mNeg, e_mIsiB, e_mIsiO, e_mFor, e_miRange1, e_miRange2, e_miTup, e_body, e_addII, e_addIB, e_addSS, e_addTT, e_subII, e_mulII, e_fdivII, e_modII, e_powII, e_ltII, e_leII, e_gtII, e_geII, e_is, e_isNot, e_ixT, e_ixS, e_ixD, e_inD, e_fLenS, e_fLenT, e_fMax2, e_fMin2, e_fAbs, e_fIntI, e_fIntB, e_fBoolI, e_fBoolB, e_mExcF, e_tryNil, e_tryCons, e_mBM, e_mEqO, e_mNeO, e_fLenO, e_fBoolO, e_mtTO, e_mInO, e_mNotInO, e_mGetO, e_mtYes, putD, List.getElem?_cons_zero, List.getElem?_cons_succ, List.set_cons_zero, List.set_cons_succ, List.map_cons, List.map_nil, List.length_cons, List.length_nil, List.cons_append, List.nil_append, List.append_nil, List.replicate, Nat.reduceAdd, Nat.reduceSub, Nat.reduceLeDiff, Nat.zero_add, true_and, and_true, reduceIte, Bool.false_eq_true, Bool.true_eq_false, Bool.not_true, Bool.not_false, w_mLst, w_mMake, w_miLst, w_gmUnl, w_mComp, compL_nil, w_compL, w_mSetF, w_addRR]
  refine pair_w w hz ha hb hc hd fun S1 w => ?_
  simp only [e_mNext, e_mSeq, e_mExpr, e_mRet, e_mRetN, e_mIfS, e_mBreak, e_mCont, e_mAsg, e_mPar, e_gmName, e_gmNil, e_gmCons, e_gmTup, e_gmSub, e_mVar, e_mC, e_mOp, e_mtB, e_mtT, e_mtNot, e_mtAnd, e_mtOr, e_mAnd, e_mOr, e_mAndT, e_mOrT, e_mIf, e_mNotB, e_mChain, e_maNil, e_maCons, e_mTup, e_mCall, e_mFld, e_mProp, e_mMeth, e_mUnO, e_mBinO, e_mCallO, e_mCMeth, e_mRaise, e_mTry, e_mFn, e_mNeg, e_mIsiB, e_mIsiO, e_mFor, e_miRange1, e_miRange2, e_miTup, e_body, e_addII, e_addIB, e_addSS, e_addTT, e_subII, e_mulII, e_fdivII, e_modII, e_powII, e_ltII, e_leII, e_gtII, e_geII, e_is, e_isNot, e_ixT, e_ixS, e_ixD, e_inD, e_fLenS, e_fLenT, e_fMax2, e_fMin2, e_fAbs, e_fIntI, e_fIntB, e_fBoolI, e_fBoolB, e_mExcF, e_tryNil, e_tryCons, e_mBM, e_mEqO, e_mNeO, e_fLenO, e_fBoolO, e_mtTO, e_mInO, e_mNotInO, e_mGetO, e_mtYes, putD, List.getElem?_cons_zero, List.getElem?_cons_succ, List.set_cons_zero, List.set_cons_succ, List.map_cons, List.map_nil, List.length_cons, List.length_nil, List.cons_append, List.nil_append, List.append_nil, List.replicate, Nat.reduceAdd, Nat.reduceSub, Nat.reduceLeDiff, Nat.zero_add, true_and, and_true, reduceIte, Bool.false_eq_true, Bool.true_eq_false, Bool.not_true, Bool.not_false, w_mLst, w_mMake, w_miLst, w_gmUnl, w_mComp, compL_nil, w_compL, w_mSetF, w_addRR]
  exact law4 w hz fun S' e8 w => h S' e8 (w.sub fun _ _ m => by cases m)
theorem law6 (w : W n B (LR jr ra rb rc a b c) S) (hz : Net z) (ha : a.ok z) (hb : b.ok z) (hc : c.ok z) (h : ∀ S' e6 e7 e8 e9, W n B [] S' → md.nx [c0, c1, some (.ref n), some (.str z), c4, some (.ref jr), e6, e7, e8, e9] S') :
    b_law_6 md [c0, c1, some (.ref n), some (.str z), c4, some (.ref jr), c6, c7, c8, c9] S := by
  rw [e_b_law_6, e_b_law_2]
  simp only [e_mNext, e_mSeq, e_mExpr, e_mRet, e_mRetN, e_mIfS, e_mBreak, e_mCont, e_mAsg, e_mPar, e_gmName, e_gmNil, e_gmCons, e_gmTup, e_gmSub, e_mVar, e_mC, e_mOp, e_mtB, e_mtT, e_mtNot, e_mtAnd, e_mtOr, e_mAnd, e_mOr, e_mAndT, e_mOrT, e_mIf, e_mNotB, e_mChain, e_maNil, e_maCons, e_mTup, e_mCall, e_mFld, e_mProp, e_mMeth, e_mUnO, e_mBinO, e_mCallO, e_mCMeth, e_mRaise, e_mTry, e_mFn, e_mNeg, e_mIsiB, e_mIsiO, e_mFor, e_miRange1, e_miRange2, e_miTup, e_body, e_addII, e_addIB, e_addSS, e_addTT, e_subII, e_mulII, e_fdivII, e_modII, e_powII, e_ltII, e_leII, e_gtII, e_geII, e_is, e_isNot, e_ixT, e_ixS, e_ixD, e_inD, e_fLenS, e_fLenT, e_fMax2, e_fMin2, e_fAbs, e_fIntI, e_fIntB, e_fBoolI, e_fBoolB, e_mExcF, e_tryNil, e_tryCons, e_mBM, e_mEqO, e_mNeO, e_fLenO, e_fBoolO, e_mtTO, e_mInO, e_mNotInO, e_mGetO, e_mtYes, putD, List.getElem?_cons_zero, List.getElem?_cons_succ, List.set_cons_zero, List.set_cons_succ, List.map_cons, List.map_nil, List.length_cons, List.length_nil, List.cons_append, List.nil_append, List.append_nil, List.replicate, Nat.reduceAdd, Nat.reduceSub, Nat.reduceLeDiff, Nat.zero_add, true_and, and_true, reduceIte, Bool.false_eq_true, Bool.true_eq_false, Bool.not_true, Bool.not_false, w_mLst, w_mMake, w_miLst, w_gmUnl, w_mComp, compL_nil, w_compL, w_mSetF, w_addRR]
  refine ⟨⟨by decide, by decide⟩, ?_⟩
  refine compL_ind (fun items acc S' => (∀ d ∈ acc, ∃ p, d = pD p) ∧ acc.length + items.length = 6 ∧ W n B (LR jr ra rb rc a b c) S') ?_ ?_ _ _ _ ⟨fun d h => (by cases h), rfl, w⟩
  · rintro acc S1 ⟨hd, hl, w⟩
    simp only [List.length_nil, Nat.add_zero] at hl
    refine ⟨trivial, ?_⟩
    intro i1 S2 e1 e2
    replace w := w.new e1 e2
    refine ⟨(sl_pos (by simp)), (sl_pos (by simp)), ?_⟩
    intro i2 S3 e1 e2
    replace w := w.new e1 e2
    refine addR_ok w (ds := acc) (xs := [pD (0, 0)]) (by repeat (first | exact List.Mem.head _ | apply List.Mem.tail)) (by repeat (first | exact List.Mem.head _ | apply List.Mem.tail)) (by simp only [List.length_cons, List.length_nil]; omega) fun sp S4 w => ?_
    have hd2 : ∀ d ∈ acc ++ [pD (0, 0)], ∃ p, d = pD p := fun d m => by
      rcases List.mem_append.mp m with m | m
      · exact hd d m
      · exact ⟨(0, 0), List.mem_singleton.mp m⟩
    have hl2 : (acc ++ [pD (0, 0)]).length ≤ 900 := by simp [hl]
    generalize acc ++ [pD (0, 0)] = ds at w hd2 hl2
    replace w := W.sub (L' := (sp, .lst ds) :: LR jr ra rb rc a b c) w fun i o m => by
      rcases List.mem_cons.mp m with e | m
      · rw [e]; exact List.mem_cons_self ..
      · exact .tail _ (.tail _ (.tail _ m))
    refine wlk_ok w (by repeat (first | exact List.Mem.head _ | apply List.Mem.tail)) ?_
    refine forL_ind (fun items sd S' => (∀ d ∈ items, ∃ r m, d = .ref r ∧ Sy.ok z m ∧ (r, O.lst (pts m)) ∈ (sp, O.lst ds) :: LR jr ra rb rc a b c) ∧ (∃ (e7 e8 e9 : Option D), sd = [c0, c1, some (.ref n), some (.str z), c4, some (.ref jr), some (.ref sp), e7, e8, e9]) ∧ W n B ((sp, .lst ds) :: LR jr ra rb rc a b c) S') ?_ ?_ _ _ _ ⟨?_, ⟨_, _, _, rfl⟩, w⟩
    · rintro sd S' ⟨_, ⟨e7, e8, e9, rfl⟩, w⟩
      refine ⟨w.get (by repeat (first | exact List.Mem.head _ | apply List.Mem.tail)), ?_⟩
      exact law5 w hz ha hb hc hd2 hl2 fun S' e8 w => h S' _ _ _ _ w
    · rintro d is sd S' ⟨hp, ⟨e7, e8, e9, rfl⟩, w⟩ ih
      refine ⟨w.get (by repeat (first | exact List.Mem.head _ | apply List.Mem.tail)), ?_⟩
      obtain ⟨r, m, rfl, hm, mr⟩ := hp d List.mem_cons_self
      try simp only [e_mNext, e_mSeq, e_mExpr, e_mRet, e_mRetN, e_mIfS, e_mBreak, e_mCont, e_mAsg, e_mPar, e_gmName, e_gmNil, e_gmCons, e_gmTup, e_gmSub, e_mVar, e_mC, e_mOp, e_mtB, e_mtT, e_mtNot, e_mtAnd, e_mtOr, e_mAnd, e_mOr, e_mAndT, e_mOrT, e_mIf, e_mNotB, e_mChain, e_maNil, e_maCons, e_mTup, e_mCall, e_mFld, e_mProp, e_mMeth, e_mUnO, e_mBinO, e_mCallO, e_mCMeth, e_mRaise, e_mTry, e_mFn, e_mNeg, e_mIsiB, e_mIsiO, e_mFor, e_miRange1, e_miRange2, e_miTup, e_body, e_addII, e_addIB, e_addSS, e_addTT, e_subII, e_mulII, e_fdivII, e_modII, e_powII, e_ltII, e_leII, e_gtII, e_geII, e_is, e_isNot, e_ixT, e_ixS, e_ixD, e_inD, e_fLenS, e_fLenT, e_fMax2, e_fMin2, e_fAbs, e_fIntI, e_fIntB, e_fBoolI, e_fBoolB, e_mExcF, e_tryNil, e_tryCons, e_mBM, e_mEqO, e_mNeO, e_fLenO, e_fBoolO, e_mtTO, e_mInO, e_mNotInO, e_mGetO, e_mtYes, putD, List.getElem?_cons_zero, List.getElem?_cons_succ, List.set_cons_zero, List.set_cons_succ, List.map_cons, List.map_nil, List.length_cons, List.length_nil, List.cons_append, List.nil_append, List.append_nil, List.replicate, Nat.reduceAdd, Nat.reduceSub, Nat.reduceLeDiff, Nat.zero_add, true_and, and_true, reduceIte, Bool.false_eq_true, Bool.true_eq_false, Bool.not_true, Bool.not_false, w_mLst, w_mMake, w_miLst, w_gmUnl, w_mComp, compL_nil, w_compL, w_mSetF, w_addRR]
      refine one_right_w w mr (.head _) hz hm hd2 hl2 fun S2 w => ?_
      simp only [e_mNext, e_mSeq, e_mExpr, e_mRet, e_mRetN, e_mIfS, e_mBreak, e_mCont, e_mAsg, e_mPar, e_gmName, e_gmNil, e_gmCons, e_gmTup, e_gmSub, e_mVar, e_mC, e_mOp, e_mtB, e_mtT, e_mtNot, e_mtAnd, e_mtOr, e_mAnd, e_mOr, e_mAndT, e_mOrT, e_mIf, e_mNotB, e_mChain, e_maNil, e_maCons, e_mTup, e_mCall, e_mFld, e_mProp, e_mMeth, e_mUnO, e_mBinO, e_mCallO, e_mCMeth, e_mRaise, e_mTry, e_mFn, e_mNeg, e_mIsiB, e_mIsiO, e_mFor, e_miRange1, e_miRange2, e_miTup, e_body, e_addII, e_addIB, e_addSS, e_addTT, e_subII, e_mulII, e_fdivII, e_modII, e_powII, e_ltII, e_leII, e_gtII, e_geII, e_is, e_isNot, e_ixT, e_ixS, e_ixD, e_inD, e_fLenS, e_fLenT, e_fMax2, e_fMin2, e_fAbs, e_fIntI, e_fIntB, e_fBoolI, e_fBoolB, e_mExcF, e_tryNil, e_tryCons, e_mBM, e_mEqO, e_mNeO, e_fLenO, e_fBoolO, e_mtTO, e_mInO, e_mNotInO, e_mGetO, e_mtYes, putD, List.getElem?_cons_zero, List.getElem?_cons_succ, List.set_cons_zero, List.set_cons_succ, List.map_cons, List.map_nil, List.length_cons, List.length_nil, List.cons_append, List.nil_append, List.append_nil, List.replicate, Nat.reduceAdd, Nat.reduceSub, Nat.reduceLeDiff, Nat.zero_add, true_and, and_true, reduceIte, Bool.false_eq_true, Bool.true_eq_false, Bool.not_true, Bool.not_false, w_mLst, w_mMake, w_miLst, w_gmUnl, w_mComp, compL_nil, w_compL, w_mSetF, w_addRR]
      exact ih _ _ ⟨fun y hy => hp y (List.mem_cons_of_mem _ hy), ⟨_, _, _, rfl⟩, w⟩
    · intro d m
      simp only [List.mem_cons, List.not_mem_nil, or_false] at m
      rcases m with rfl | rfl | rfl
      · exact ⟨ra, a, rfl, ha, (by repeat (first | exact List.Mem.head _ | apply List.Mem.tail))⟩
      · exact ⟨rb, b, rfl, hb, (by repeat (first | exact List.Mem.head _ | apply List.Mem.tail))⟩
      · exact ⟨rc, c, rfl, hc, (by repeat (first | exact List.Mem.head _ | apply List.Mem.tail))⟩
  · rintro d is acc S1 ⟨hd, hl, w⟩ ih
    simp only [List.length_cons] at hl
    refine ⟨trivial, ?_⟩
    simp only [e_mNext, e_mSeq, e_mExpr, e_mRet, e_mRetN, e_mIfS, e_mBreak, e_mCont, e_mAsg, e_mPar, e_gmName, e_gmNil, e_gmCons, e_gmTup, e_gmSub, e_mVar, e_mC, e_mOp, e_mtB, e_mtT, e_mtNot, e_mtAnd, e_mtOr, e_mAnd, e_mOr, e_mAndT, e_mOrT, e_mIf, e_mNotB, e_mChain, e_maNil, e_maCons, e_mTup, e_mCall, e_mFld, e_mProp, e_mMeth, e_mUnO, e_mBinO, e_mCallO, e_mCMeth, e_mRaise, e_mTry, e_mFn, e_mNeg, e_mIsiB, e_mIsiO, e_mFor, e_miRange1, e_miRange2, e_miTup, e_body, e_addII, e_addIB, e_addSS, e_addTT, e_subII, e_mulII, e_fdivII, e_modII, e_powII, e_ltII, e_leII, e_gtII, e_geII, e_is, e_isNot, e_ixT, e_ixS, e_ixD, e_inD, e_fLenS, e_fLenT, e_fMax2, e_fMin2, e_fAbs, e_fIntI, e_fIntB, e_fBoolI, e_fBoolB, e_mExcF, e_tryNil, e_tryCons, e_mBM, e_mEqO, e_mNeO, e_fLenO, e_fBoolO, e_mtTO, e_mInO, e_mNotInO, e_mGetO, e_mtYes, putD, List.getElem?_cons_zero, List.getElem?_cons_succ, List.set_cons_zero, List.set_cons_succ, List.map_cons, List.map_nil, List.length_cons, List.length_nil, List.cons_append, List.nil_append, List.append_nil, List.replicate, Nat.reduceAdd, Nat.reduceSub, Nat.reduceLeDiff, Nat.zero_add, true_and, and_true, reduceIte, Bool.false_eq_true, Bool.true_eq_false, Bool.not_true, Bool.not_false, w_mLst, w_mMake, w_miLst, w_gmUnl, w_mComp, compL_nil, w_compL, w_mSetF, w_addRR]
    refine drw_w w (by decide) (by decide) fun d1 S2 _ _ w => ?_
    try simp only [e_mNext, e_mSeq, e_mExpr, e_mRet, e_mRetN, e_mIfS, e_mBreak, e_mCont, e_mAsg, e_mPar, e_gmName, e_gmNil, e_gmCons, e_gmTup, e_gmSub, e_mVar, e_mC, e_mOp, e_mtB, e_mtT, e_mtNot, e_mtAnd, e_mtOr, e_mAnd, e_mOr, e_mAndT, e_mOrT, e_mIf, e_mNotB, e_mChain, e_maNil, e_maCons, e_mTup, e_mCall, e_mFld, e_mProp, e_mMeth, e_mUnO, e_mBinO, e_mCallO, e_mCMeth, e_mRaise, e_mTry, e_mFn, e_mNeg, e_mIsiB, e_mIsiO, e_mFor, e_miRange1, e_miRange2, e_miTup, e_body, e_addII, e_addIB, e_addSS, e_addTT, e_subII, e_mulII, e_fdivII, e_modII, e_powII, e_ltII, e_leII, e_gtII, e_geII, e_is, e_isNot, e_ixT, e_ixS, e_ixD, e_inD, e_fLenS, e_fLenT, e_fMax2, e_fMin2, e_fAbs, e_fIntI, e_fIntB, e_fBoolI, e_fBoolB, e_mExcF, e_tryNil, e_tryCons, e_mBM, e_mEqO, e_mNeO, e_fLenO, e_fBoolO, e_mtTO, e_mInO, e_mNotInO, e_mGetO, e_mtYes, putD, List.getElem?_cons_zero, List.getElem?_cons_succ, List.set_cons_zero, List.set_cons_succ, List.map_cons, List.map_nil, List.length_cons, List.length_nil, List.cons_append, List.nil_append, List.append_nil, List.replicate, Nat.reduceAdd, Nat.reduceSub, Nat.reduceLeDiff, Nat.zero_add, true_and, and_true, reduceIte, Bool.false_eq_true, Bool.true_eq_false, Bool.not_true, Bool.not_false, w_mLst, w_mMake, w_miLst, w_gmUnl, w_mComp, compL_nil, w_compL, w_mSetF, w_addRR]
    refine drw_w w (by decide) (by decide) fun d2 S3 _ _ w => ?_
    try simp only [e_mNext, e_mSeq, e_mExpr, e_mRet, e_mRetN, e_mIfS, e_mBreak, e_mCont, e_mAsg, e_mPar, e_gmName, e_gmNil, e_gmCons, e_gmTup, e_gmSub, e_mVar, e_mC, e_mOp, e_mtB, e_mtT, e_mtNot, e_mtAnd, e_mtOr, e_mAnd, e_mOr, e_mAndT, e_mOrT, e_mIf, e_mNotB, e_mChain, e_maNil, e_maCons, e_mTup, e_mCall, e_mFld, e_mProp, e_mMeth, e_mUnO, e_mBinO, e_mCallO, e_mCMeth, e_mRaise, e_mTry, e_mFn, e_mNeg, e_mIsiB, e_mIsiO, e_mFor, e_miRange1, e_miRange2, e_miTup, e_body, e_addII, e_addIB, e_addSS, e_addTT, e_subII, e_mulII, e_fdivII, e_modII, e_powII, e_ltII, e_leII, e_gtII, e_geII, e_is, e_isNot, e_ixT, e_ixS, e_ixD, e_inD, e_fLenS, e_fLenT, e_fMax2, e_fMin2, e_fAbs, e_fIntI, e_fIntB, e_fBoolI, e_fBoolB, e_mExcF, e_tryNil, e_tryCons, e_mBM, e_mEqO, e_mNeO, e_fLenO, e_fBoolO, e_mtTO, e_mInO, e_mNotInO, e_mGetO, e_mtYes, putD, List.getElem?_cons_zero, List.getElem?_cons_succ, List.set_cons_zero, List.set_cons_succ, List.map_cons, List.map_nil, List.length_cons, List.length_nil, List.cons_append, List.nil_append, List.append_nil, List.replicate, Nat.reduceAdd, Nat.reduceSub, Nat.reduceLeDiff, Nat.zero_add, true_and, and_true, reduceIte, Bool.false_eq_true, Bool.true_eq_false, Bool.not_true, Bool.not_false, w_mLst, w_mMake, w_miLst, w_gmUnl, w_mComp, compL_nil, w_compL, w_mSetF, w_addRR]
    refine ⟨(sl_pos (by simp)), ?_, ih _ _ ⟨fun d m => ?_, ?_, w⟩⟩
    · have := sl_pos (n := 900) (by decide)
      omega
    · rcases List.mem_append.mp m with m | m
      · exact hd d m
      · exact ⟨(d1 - 9, d2 - 9), List.mem_singleton.mp m⟩
    · simp only [List.length_append, List.length_cons, List.length_nil]
      omega
theorem ixn31 : L2.ixN 3 1 = some 1 := rfl
theorem law8 (w : W n S [] S) (hz : Net z) (h1 : 1 ≤ wide) (h2 : wide < 10 ^ 31) (h : ∀ S' e5 e6 e7 e8 e9, W n S [] S' → md.nx [c0, c1, some (.ref n), some (.str z), some (.int wide), e5, e6, e7, e8, e9] S') :
    b_law_8 md [c0, c1, some (.ref n), some (.str z), some (.int wide), c5, c6, c7, c8, c9] S := by
  have r3 : rangeD 0 (3 : Int).toNat = [.int 0, .int 1, .int 2] := rfl
  rw [e_b_law_8, e_b_law_7]
  simp only [e_mNext, e_mSeq, e_mExpr, e_mRet, e_mRetN, e_mIfS, e_mBreak, e_mCont, e_mAsg, e_mPar, e_gmName, e_gmNil, e_gmCons, e_gmTup, e_gmSub, e_mVar, e_mC, e_mOp, e_mtB, e_mtT, e_mtNot, e_mtAnd, e_mtOr, e_mAnd, e_mOr, e_mAndT, e_mOrT, e_mIf, e_mNotB, e_mChain, e_maNil, e_maCons, e_mTup, e_mCall, e_mFld, e_mProp, e_mMeth, e_mUnO, e_mBinO, e_mCallO, e_mCMeth, e_mRaise, e_mTry, e_mFn, e_mNeg, e_mIsiB, e_mIsiO, e_mFor, e_miRange1, e_miRange2, e_miTup, e_body, e_addII, e_addIB, e_addSS, e_addTT, e_subII, e_mulII, e_fdivII, e_modII, e_powII, e_ltII, e_leII, e_gtII, e_geII, e_is, e_isNot, e_ixT, e_ixS, e_ixD, e_inD, e_fLenS, e_fLenT, e_fMax2, e_fMin2, e_fAbs, e_fIntI, e_fIntB, e_fBoolI, e_fBoolB, e_mExcF, e_tryNil, e_tryCons, e_mBM, e_mEqO, e_mNeO, e_fLenO, e_fBoolO, e_mtTO, e_mInO, e_mNotInO, e_mGetO, e_mtYes, putD, List.getElem?_cons_zero, List.getElem?_cons_succ, List.set_cons_zero, List.set_cons_succ, List.map_cons, List.map_nil, List.length_cons, List.length_nil, List.cons_append, List.nil_append, List.append_nil, List.replicate, Nat.reduceAdd, Nat.reduceSub, Nat.reduceLeDiff, Nat.zero_add, true_and, and_true, reduceIte, Bool.false_eq_true, Bool.true_eq_false, Bool.not_true, Bool.not_false, w_mLst, w_mMake, w_miLst, w_gmUnl, w_mComp, compL_nil, w_compL, w_mSetF, w_addRR, r3, wipeD]
  refine ⟨⟨by decide, by decide⟩, ?_⟩
  refine parts_w w hz h1 h2 fun ra S1 a ha w => ?_
  try simp only [e_mNext, e_mSeq, e_mExpr, e_mRet, e_mRetN, e_mIfS, e_mBreak, e_mCont, e_mAsg, e_mPar, e_gmName, e_gmNil, e_gmCons, e_gmTup, e_gmSub, e_mVar, e_mC, e_mOp, e_mtB, e_mtT, e_mtNot, e_mtAnd, e_mtOr, e_mAnd, e_mOr, e_mAndT, e_mOrT, e_mIf, e_mNotB, e_mChain, e_maNil, e_maCons, e_mTup, e_mCall, e_mFld, e_mProp, e_mMeth, e_mUnO, e_mBinO, e_mCallO, e_mCMeth, e_mRaise, e_mTry, e_mFn, e_mNeg, e_mIsiB, e_mIsiO, e_mFor, e_miRange1, e_miRange2, e_miTup, e_body, e_addII, e_addIB, e_addSS, e_addTT, e_subII, e_mulII, e_fdivII, e_modII, e_powII, e_ltII, e_leII, e_gtII, e_geII, e_is, e_isNot, e_ixT, e_ixS, e_ixD, e_inD, e_fLenS, e_fLenT, e_fMax2, e_fMin2, e_fAbs, e_fIntI, e_fIntB, e_fBoolI, e_fBoolB, e_mExcF, e_tryNil, e_tryCons, e_mBM, e_mEqO, e_mNeO, e_fLenO, e_fBoolO, e_mtTO, e_mInO, e_mNotInO, e_mGetO, e_mtYes, putD, List.getElem?_cons_zero, List.getElem?_cons_succ, List.set_cons_zero, List.set_cons_succ, List.map_cons, List.map_nil, List.length_cons, List.length_nil, List.cons_append, List.nil_append, List.append_nil, List.replicate, Nat.reduceAdd, Nat.reduceSub, Nat.reduceLeDiff, Nat.zero_add, true_and, and_true, reduceIte, Bool.false_eq_true, Bool.true_eq_false, Bool.not_true, Bool.not_false, w_mLst, w_mMake, w_miLst, w_gmUnl, w_mComp, compL_nil, w_compL, w_mSetF, w_addRR]
  refine ⟨(sl_pos (by simp)), ?_⟩
  refine parts_w w hz h1 h2 fun rb S2 b hb w => ?_
  try simp only [e_mNext, e_mSeq, e_mExpr, e_mRet, e_mRetN, e_mIfS, e_mBreak, e_mCont, e_mAsg, e_mPar, e_gmName, e_gmNil, e_gmCons, e_gmTup, e_gmSub, e_mVar, e_mC, e_mOp, e_mtB, e_mtT, e_mtNot, e_mtAnd, e_mtOr, e_mAnd, e_mOr, e_mAndT, e_mOrT, e_mIf, e_mNotB, e_mChain, e_maNil, e_maCons, e_mTup, e_mCall, e_mFld, e_mProp, e_mMeth, e_mUnO, e_mBinO, e_mCallO, e_mCMeth, e_mRaise, e_mTry, e_mFn, e_mNeg, e_mIsiB, e_mIsiO, e_mFor, e_miRange1, e_miRange2, e_miTup, e_body, e_addII, e_addIB, e_addSS, e_addTT, e_subII, e_mulII, e_fdivII, e_modII, e_powII, e_ltII, e_leII, e_gtII, e_geII, e_is, e_isNot, e_ixT, e_ixS, e_ixD, e_inD, e_fLenS, e_fLenT, e_fMax2, e_fMin2, e_fAbs, e_fIntI, e_fIntB, e_fBoolI, e_fBoolB, e_mExcF, e_tryNil, e_tryCons, e_mBM, e_mEqO, e_mNeO, e_fLenO, e_fBoolO, e_mtTO, e_mInO, e_mNotInO, e_mGetO, e_mtYes, putD, List.getElem?_cons_zero, List.getElem?_cons_succ, List.set_cons_zero, List.set_cons_succ, List.map_cons, List.map_nil, List.length_cons, List.length_nil, List.cons_append, List.nil_append, List.append_nil, List.replicate, Nat.reduceAdd, Nat.reduceSub, Nat.reduceLeDiff, Nat.zero_add, true_and, and_true, reduceIte, Bool.false_eq_true, Bool.true_eq_false, Bool.not_true, Bool.not_false, w_mLst, w_mMake, w_miLst, w_gmUnl, w_mComp, compL_nil, w_compL, w_mSetF, w_addRR]
  refine ⟨(sl_pos (by simp)), ?_⟩
  refine parts_w w hz h1 h2 fun rc S3 c hc w => ?_
  try simp only [e_mNext, e_mSeq, e_mExpr, e_mRet, e_mRetN, e_mIfS, e_mBreak, e_mCont, e_mAsg, e_mPar, e_gmName, e_gmNil, e_gmCons, e_gmTup, e_gmSub, e_mVar, e_mC, e_mOp, e_mtB, e_mtT, e_mtNot, e_mtAnd, e_mtOr, e_mAnd, e_mOr, e_mAndT, e_mOrT, e_mIf, e_mNotB, e_mChain, e_maNil, e_maCons, e_mTup, e_mCall, e_mFld, e_mProp, e_mMeth, e_mUnO, e_mBinO, e_mCallO, e_mCMeth, e_mRaise, e_mTry, e_mFn, e_mNeg, e_mIsiB, e_mIsiO, e_mFor, e_miRange1, e_miRange2, e_miTup, e_body, e_addII, e_addIB, e_addSS, e_addTT, e_subII, e_mulII, e_fdivII, e_modII, e_powII, e_ltII, e_leII, e_gtII, e_geII, e_is, e_isNot, e_ixT, e_ixS, e_ixD, e_inD, e_fLenS, e_fLenT, e_fMax2, e_fMin2, e_fAbs, e_fIntI, e_fIntB, e_fBoolI, e_fBoolB, e_mExcF, e_tryNil, e_tryCons, e_mBM, e_mEqO, e_mNeO, e_fLenO, e_fBoolO, e_mtTO, e_mInO, e_mNotInO, e_mGetO, e_mtYes, putD, List.getElem?_cons_zero, List.getElem?_cons_succ, List.set_cons_zero, List.set_cons_succ, List.map_cons, List.map_nil, List.length_cons, List.length_nil, List.cons_append, List.nil_append, List.append_nil, List.replicate, Nat.reduceAdd, Nat.reduceSub, Nat.reduceLeDiff, Nat.zero_add, true_and, and_true, reduceIte, Bool.false_eq_true, Bool.true_eq_false, Bool.not_true, Bool.not_false, w_mLst, w_mMake, w_miLst, w_gmUnl, w_mComp, compL_nil, w_compL, w_mSetF, w_addRR]
  refine ⟨(sl_pos (by simp)), ?_⟩
  intro jr S4 ej eS
  have hB : S.length ≤ jr := by have := w.fr.len; omega
  replace w := w.new ej eS
  refine drw_w w (by decide) (by decide) fun d1 S5 _ _ w => ?_
  simp only [mEq_int']
  cases e : d1 == 0 with
  | false =>
    simp only [e_mNext, e_mSeq, e_mExpr, e_mRet, e_mRetN, e_mIfS, e_mBreak, e_mCont, e_mAsg, e_mPar, e_gmName, e_gmNil, e_gmCons, e_gmTup, e_gmSub, e_mVar, e_mC, e_mOp, e_mtB, e_mtT, e_mtNot, e_mtAnd, e_mtOr, e_mAnd, e_mOr, e_mAndT, e_mOrT, e_mIf, e_mNotB, e_mChain, e_maNil, e_maCons, e_mTup, e_mCall, e_mFld, e_mProp, e_mMeth, e_mUnO, e_mBinO, e_mCallO, e_mCMeth, e_mRaise, e_mTry, e_mFn, e_mNeg, e_mIsiB, e_mIsiO, e_mFor, e_miRange1, e_miRange2, e_miTup, e_body, e_addII, e_addIB, e_addSS, e_addTT, e_subII, e_mulII, e_fdivII, e_modII, e_powII, e_ltII, e_leII, e_gtII, e_geII, e_is, e_isNot, e_ixT, e_ixS, e_ixD, e_inD, e_fLenS, e_fLenT, e_fMax2, e_fMin2, e_fAbs, e_fIntI, e_fIntB, e_fBoolI, e_fBoolB, e_mExcF, e_tryNil, e_tryCons, e_mBM, e_mEqO, e_mNeO, e_fLenO, e_fBoolO, e_mtTO, e_mInO, e_mNotInO, e_mGetO, e_mtYes, putD, List.getElem?_cons_zero, List.getElem?_cons_succ, List.set_cons_zero, List.set_cons_succ, List.map_cons, List.map_nil, List.length_cons, List.length_nil, List.cons_append, List.nil_append, List.append_nil, List.replicate, Nat.reduceAdd, Nat.reduceSub, Nat.reduceLeDiff, Nat.zero_add, true_and, and_true, reduceIte, Bool.false_eq_true, Bool.true_eq_false, Bool.not_true, Bool.not_false, w_mLst, w_mMake, w_miLst, w_gmUnl, w_mComp, compL_nil, w_compL, w_mSetF, w_addRR]
    exact law6 (jr := jr) (ra := ra) (rb := rb) (rc := rc) (a := a) (b := b) (c := c) (w.sub fun i o m => by
      simp only [List.mem_cons, List.not_mem_nil, or_false] at m ⊢
      rcases m with m | m | m | m <;> simp only [m, true_or, or_true]) hz ha hb hc fun S' e6 e7 e8 e9 w => h S' _ e6 e7 e8 e9 w
  | true =>
    simp only [e_mNext, e_mSeq, e_mExpr, e_mRet, e_mRetN, e_mIfS, e_mBreak, e_mCont, e_mAsg, e_mPar, e_gmName, e_gmNil, e_gmCons, e_gmTup, e_gmSub, e_mVar, e_mC, e_mOp, e_mtB, e_mtT, e_mtNot, e_mtAnd, e_mtOr, e_mAnd, e_mOr, e_mAndT, e_mOrT, e_mIf, e_mNotB, e_mChain, e_maNil, e_maCons, e_mTup, e_mCall, e_mFld, e_mProp, e_mMeth, e_mUnO, e_mBinO, e_mCallO, e_mCMeth, e_mRaise, e_mTry, e_mFn, e_mNeg, e_mIsiB, e_mIsiO, e_mFor, e_miRange1, e_miRange2, e_miTup, e_body, e_addII, e_addIB, e_addSS, e_addTT, e_subII, e_mulII, e_fdivII, e_modII, e_powII, e_ltII, e_leII, e_gtII, e_geII, e_is, e_isNot, e_ixT, e_ixS, e_ixD, e_inD, e_fLenS, e_fLenT, e_fMax2, e_fMin2, e_fAbs, e_fIntI, e_fIntB, e_fBoolI, e_fBoolB, e_mExcF, e_tryNil, e_tryCons, e_mBM, e_mEqO, e_mNeO, e_fLenO, e_fBoolO, e_mtTO, e_mInO, e_mNotInO, e_mGetO, e_mtYes, putD, List.getElem?_cons_zero, List.getElem?_cons_succ, List.set_cons_zero, List.set_cons_succ, List.map_cons, List.map_nil, List.length_cons, List.length_nil, List.cons_append, List.nil_append, List.append_nil, List.replicate, Nat.reduceAdd, Nat.reduceSub, Nat.reduceLeDiff, Nat.zero_add, true_and, and_true, reduceIte, Bool.false_eq_true, Bool.true_eq_false, Bool.not_true, Bool.not_false, w_mLst, w_mMake, w_miLst, w_gmUnl, w_mComp, compL_nil, w_compL, w_mSetF, w_addRR]
    rw [e_b_law_1]
    simp only [e_mNext, e_mSeq, e_mExpr, e_mRet, e_mRetN, e_mIfS, e_mBreak, e_mCont, e_mAsg, e_mPar, e_gmName, e_gmNil, e_gmCons, e_gmTup, e_gmSub, e_mVar, e_mC, e_mOp, e_mtB, e_mtT, e_mtNot, e_mtAnd, e_mtOr, e_mAnd, e_mOr, e_mAndT, e_mOrT, e_mIf, e_mNotB, e_mChain, e_maNil, e_maCons, e_mTup, e_mCall, e_mFld, e_mProp, e_mMeth, e_mUnO, e_mBinO, e_mCallO, e_mCMeth, e_mRaise, e_mTry, e_mFn, e_mNeg, e_mIsiB, e_mIsiO, e_mFor, e_miRange1, e_miRange2, e_miTup, e_body, e_addII, e_addIB, e_addSS, e_addTT, e_subII, e_mulII, e_fdivII, e_modII, e_powII, e_ltII, e_leII, e_gtII, e_geII, e_is, e_isNot, e_ixT, e_ixS, e_ixD, e_inD, e_fLenS, e_fLenT, e_fMax2, e_fMin2, e_fAbs, e_fIntI, e_fIntB, e_fBoolI, e_fBoolB, e_mExcF, e_tryNil, e_tryCons, e_mBM, e_mEqO, e_mNeO, e_fLenO, e_fBoolO, e_mtTO, e_mInO, e_mNotInO, e_mGetO, e_mtYes, putD, List.getElem?_cons_zero, List.getElem?_cons_succ, List.set_cons_zero, List.set_cons_succ, List.map_cons, List.map_nil, List.length_cons, List.length_nil, List.cons_append, List.nil_append, List.append_nil, List.replicate, Nat.reduceAdd, Nat.reduceSub, Nat.reduceLeDiff, Nat.zero_add, true_and, and_true, reduceIte, Bool.false_eq_true, Bool.true_eq_false, Bool.not_true, Bool.not_false, w_mLst, w_mMake, w_miLst, w_gmUnl, w_mComp, compL_nil, w_compL, w_mSetF, w_addRR]
    refine ix_ok w (y := .ref ra) (by repeat (first | exact List.Mem.head _ | apply List.Mem.tail)) rfl ?_
    have g := w.get (j := jr) (.head _)
    simp only [e_mNext, e_mSeq, e_mExpr, e_mRet, e_mRetN, e_mIfS, e_mBreak, e_mCont, e_mAsg, e_mPar, e_gmName, e_gmNil, e_gmCons, e_gmTup, e_gmSub, e_mVar, e_mC, e_mOp, e_mtB, e_mtT, e_mtNot, e_mtAnd, e_mtOr, e_mAnd, e_mOr, e_mAndT, e_mOrT, e_mIf, e_mNotB, e_mChain, e_maNil, e_maCons, e_mTup, e_mCall, e_mFld, e_mProp, e_mMeth, e_mUnO, e_mBinO, e_mCallO, e_mCMeth, e_mRaise, e_mTry, e_mFn, e_mNeg, e_mIsiB, e_mIsiO, e_mFor, e_miRange1, e_miRange2, e_miTup, e_body, e_addII, e_addIB, e_addSS, e_addTT, e_subII, e_mulII, e_fdivII, e_modII, e_powII, e_ltII, e_leII, e_gtII, e_geII, e_is, e_isNot, e_ixT, e_ixS, e_ixD, e_inD, e_fLenS, e_fLenT, e_fMax2, e_fMin2, e_fAbs, e_fIntI, e_fIntB, e_fBoolI, e_fBoolB, e_mExcF, e_tryNil, e_tryCons, e_mBM, e_mEqO, e_mNeO, e_fLenO, e_fBoolO, e_mtTO, e_mInO, e_mNotInO, e_mGetO, e_mtYes, putD, List.getElem?_cons_zero, List.getElem?_cons_succ, List.set_cons_zero, List.set_cons_succ, List.map_cons, List.map_nil, List.length_cons, List.length_nil, List.cons_append, List.nil_append, List.append_nil, List.replicate, Nat.reduceAdd, Nat.reduceSub, Nat.reduceLeDiff, Nat.zero_add, true_and, and_true, reduceIte, Bool.false_eq_true, Bool.true_eq_false, Bool.not_true, Bool.not_false, w_mLst, w_mMake, w_miLst, w_gmUnl, w_mComp, compL_nil, w_compL, w_mSetF, w_addRR, lstO, g, ixn31]
    have apart : ∀ i u, (i, u) ∈ [(rc, O.lst (pts c)), (rb, .lst (pts b)), (ra, .lst (pts a))] → i ≠ jr := fun i u m e => by
      subst e
      have g2 := w.get (.tail _ m)
      rw [g] at g2
      simp only [List.mem_cons, List.not_mem_nil, or_false, Prod.mk.injEq] at m
      rcases m with ⟨_, m⟩ | ⟨_, m⟩ | ⟨_, m⟩ <;> (rw [m] at g2; cases g2)
    replace w := w.set hB apart (o' := .lst [.ref ra, .ref ra, .ref rc])
    exact law6 (jr := jr) (ra := ra) (rb := ra) (rc := rc) (a := a) (b := a) (c := c) (w.sub fun i o m => by
      simp only [List.mem_cons, List.not_mem_nil, or_false] at m ⊢
      rcases m with m | m | m | m <;> simp only [m, true_or, or_true]) hz ha ha hc fun S' e6 e7 e8 e9 w => h S' _ e6 e7 e8 e9 w
theorem law9 (w : W n S [] S) (hz : Net z) (h : ∀ S' e4 e5 e6 e7 e8 e9, W n S [] S' → md.nx [c0, c1, some (.ref n), some (.str z), e4, e5, e6, e7, e8, e9] S') :
    b_law_9 md [c0, c1, some (.ref n), some (.str z), c4, c5, c6, c7, c8, c9] S := by
  rw [e_b_law_9]
  simp only [e_mNext, e_mSeq, e_mExpr, e_mRet, e_mRetN, e_mIfS, e_mBreak, e_mCont, e_mAsg, e_mPar, e_gmName, e_gmNil, e_gmCons, e_gmTup, e_gmSub, e_mVar, e_mC, e_mOp, e_mtB, e_mtT, e_mtNot, e_mtAnd, e_mtOr, e_mAnd, e_mOr, e_mAndT, e_mOrT, e_mIf, e_mNotB, e_mChain, e_maNil, e_maCons, e_mTup, e_mCall, e_mFld, e_mProp, e_mMeth, e_mUnO, e_mBinO, e_mCallO, e_mCMeth, e_mRaise, e_mTry, e_mFn, e_mNeg, e_mIsiB, e_mIsiO, e_mFor, e_miRange1, e_miRange2, e_miTup, e_body, e_addII, e_addIB, e_addSS, e_addTT, e_subII, e_mulII, e_fdivII, e_modII, e_powII, e_ltII, e_leII, e_gtII, e_geII, e_is, e_isNot, e_ixT, e_ixS, e_ixD, e_inD, e_fLenS, e_fLenT, e_fMax2, e_fMin2, e_fAbs, e_fIntI, e_fIntB, e_fBoolI, e_fBoolB, e_mExcF, e_tryNil, e_tryCons, e_mBM, e_mEqO, e_mNeO, e_fLenO, e_fBoolO, e_mtTO, e_mInO, e_mNotInO, e_mGetO, e_mtYes, putD, List.getElem?_cons_zero, List.getElem?_cons_succ, List.set_cons_zero, List.set_cons_succ, List.map_cons, List.map_nil, List.length_cons, List.length_nil, List.cons_append, List.nil_append, List.append_nil, List.replicate, Nat.reduceAdd, Nat.reduceSub, Nat.reduceLeDiff, Nat.zero_add, true_and, and_true, reduceIte, Bool.false_eq_true, Bool.true_eq_false, Bool.not_true, Bool.not_false, w_mLst, w_mMake, w_miLst, w_gmUnl, w_mComp, compL_nil, w_compL, w_mSetF, w_addRR]
  refine big_w w fun v S1 h1 l1 w => ?_
  try simp only [e_mNext, e_mSeq, e_mExpr, e_mRet, e_mRetN, e_mIfS, e_mBreak, e_mCont, e_mAsg, e_mPar, e_gmName, e_gmNil, e_gmCons, e_gmTup, e_gmSub, e_mVar, e_mC, e_mOp, e_mtB, e_mtT, e_mtNot, e_mtAnd, e_mtOr, e_mAnd, e_mOr, e_mAndT, e_mOrT, e_mIf, e_mNotB, e_mChain, e_maNil, e_maCons, e_mTup, e_mCall, e_mFld, e_mProp, e_mMeth, e_mUnO, e_mBinO, e_mCallO, e_mCMeth, e_mRaise, e_mTry, e_mFn, e_mNeg, e_mIsiB, e_mIsiO, e_mFor, e_miRange1, e_miRange2, e_miTup, e_body, e_addII, e_addIB, e_addSS, e_addTT, e_subII, e_mulII, e_fdivII, e_modII, e_powII, e_ltII, e_leII, e_gtII, e_geII, e_is, e_isNot, e_ixT, e_ixS, e_ixD, e_inD, e_fLenS, e_fLenT, e_fMax2, e_fMin2, e_fAbs, e_fIntI, e_fIntB, e_fBoolI, e_fBoolB, e_mExcF, e_tryNil, e_tryCons, e_mBM, e_mEqO, e_mNeO, e_fLenO, e_fBoolO, e_mtTO, e_mInO, e_mNotInO, e_mGetO, e_mtYes, putD, List.getElem?_cons_zero, List.getElem?_cons_succ, List.set_cons_zero, List.set_cons_succ, List.map_cons, List.map_nil, List.length_cons, List.length_nil, List.cons_append, List.nil_append, List.append_nil, List.replicate, Nat.reduceAdd, Nat.reduceSub, Nat.reduceLeDiff, Nat.zero_add, true_and, and_true, reduceIte, Bool.false_eq_true, Bool.true_eq_false, Bool.not_true, Bool.not_false, w_mLst, w_mMake, w_miLst, w_gmUnl, w_mComp, compL_nil, w_compL, w_mSetF, w_addRR]
  refine ⟨(sl_pos (by simp)), ?_⟩
  intro j S2 e1 e2
  have w0 := w
  replace w := w.new e1 e2
  refine drw_w w (by decide) (by decide) fun d S3 d0 d3 w => ?_
  have fin : ∀ g : Int, L2.atI [D.int 1, .int 9, .int v] d = some (.int g) → 1 ≤ g → g < 10 ^ 31 → mIx (.ref j) (.int d) S3 fun d S => b_law_8 md [c0, c1, some (.ref n), some (.str z), some d, c5, c6, c7, c8, c9] S := fun g e g1 g2 => by
    refine ix_ok w (by repeat (first | exact List.Mem.head _ | apply List.Mem.tail)) e ?_
    exact law8 (w.base fun _ _ m => by cases m) hz g1 g2 fun S' e5 e6 e7 e8 e9 w2 => h S' _ e5 e6 e7 e8 e9 ((w.sub fun _ _ m => by cases m).back w2)
  have : d = 0 ∨ d = 1 ∨ d = 2 := by omega
  rcases this with rfl | rfl | rfl
  · exact fin 1 rfl (by decide) (by decide)
  · exact fin 9 rfl (by decide) (by decide)
  · exact fin v rfl h1 l1
end
end Lw

namespace Lw
open PySem PySem.Spec PyProof.Rows L2

section
variable {n : Nat} {B : Sto} {L L' : List (Nat × O)} {S S0 S' : Sto} {j j2 i r jr ra rb rc jk sp : Nat} {o : O} {ds xs : List D} {q : QD} {x : QX} {z z2 : Str} {a b c m : Sy} {u v t k wide : Int} {f g : Bool} {K : QD} {p p2 : Int × Int} {md : MEnds}
variable {c0 c1 c2 c3 c4 c5 c6 c7 c8 c9 c10 : Option D}
theorem law10 (w : W n B [] S) (h : ∀ S' e3 e4 e5 e6 e7 e8 e9, W n B [] S' → md.nx [c0, c1, some (.ref n), e3, e4, e5, e6, e7, e8, e9] S') :
    b_law_10 md [c0, c1, some (.ref n), c3, c4, c5, c6, c7, c8, c9] S := by
  rw [e_b_law_10]
  simp only [e_mNext, e_mSeq, e_mExpr, e_mRet, e_mRetN, e_mIfS, e_mBreak, e_mCont, e_mAsg, e_mPar, e_gmName, e_gmNil, e_gmCons, e_gmTup, e_gmSub, e_mVar, e_mC, e_mOp, e_mtB, e_mtT, e_mtNot, e_mtAnd, e_mtOr, e_mAnd, e_mOr, e_mAndT, e_mOrT, e_mIf, e_mNotB, e_mChain, e_maNil, e_maCons, e_mTup, e_mCall, e_mFld, e_mProp, e_mMeth, e_mUnO, e_mBinO, e_mCallO, e_mCMeth, e_mRaise, e_mTry, e_mFn, e_mNeg, e_mIsiB, e_mIsiO, e_mFor, e_miRange1, e_miRange2, e_miTup, e_body, e_addII, e_addIB, e_addSS, e_addTT, e_subII, e_mulII, e_fdivII, e_modII, e_powII, e_ltII, e_leII, e_gtII, e_geII, e_is, e_isNot, e_ixT, e_ixS, e_ixD, e_inD, e_fLenS, e_fLenT, e_fMax2, e_fMin2, e_fAbs, e_fIntI, e_fIntB, e_fBoolI, e_fBoolB, e_mExcF, e_tryNil, e_tryCons, e_mBM, e_mEqO, e_mNeO, e_fLenO, e_fBoolO, e_mtTO, e_mInO, e_mNotInO, e_mGetO, e_mtYes, putD, List.getElem?_cons_zero, List.getElem?_cons_succ, List.set_cons_zero, List.set_cons_succ, List.map_cons, List.map_nil, List.length_cons, List.length_nil, List.cons_append, List.nil_append, List.append_nil, List.replicate, Nat.reduceAdd, Nat.reduceSub, Nat.reduceLeDiff, Nat.zero_add, true_and, and_true, reduceIte, Bool.false_eq_true, Bool.true_eq_false, Bool.not_true, Bool.not_false, w_mLst, w_mMake, w_miLst, w_gmUnl, w_mComp, compL_nil, w_compL, w_mSetF, w_addRR]
  refine ⟨(sl_pos (by simp)), ?_⟩
  intro jk S1 e1 e2
  replace w := w.new e1 e2
  refine wlk_ok w (by repeat (first | exact List.Mem.head _ | apply List.Mem.tail)) ?_
  refine forL_ind (fun items sd S' => (∀ d ∈ items, ∃ z, d = .str z ∧ Net z) ∧ (∃ e3 e4 e5 e6 e7 e8 e9, sd = [c0, c1, some (.ref n), e3, e4, e5, e6, e7, e8, e9]) ∧ W n B [(jk, .lst [.str "square", .str "triangle"])] S') ?_ ?_ _ _ _ ⟨?_, ⟨_, _, _, _, _, _, _, rfl⟩, w⟩
  · rintro sd S' ⟨_, ⟨e3, e4, e5, e6, e7, e8, e9, rfl⟩, w⟩
    exact ⟨w.get (by repeat (first | exact List.Mem.head _ | apply List.Mem.tail)), h S' _ _ _ _ _ _ _ (w.sub fun _ _ m => by cases m)⟩
  · rintro d is sd S' ⟨hp, ⟨e3, e4, e5, e6, e7, e8, e9, rfl⟩, w⟩ ih
    refine ⟨w.get (by repeat (first | exact List.Mem.head _ | apply List.Mem.tail)), ?_⟩
    obtain ⟨z, rfl, hz⟩ := hp d List.mem_cons_self
    try simp only [e_mNext, e_mSeq, e_mExpr, e_mRet, e_mRetN, e_mIfS, e_mBreak, e_mCont, e_mAsg, e_mPar, e_gmName, e_gmNil, e_gmCons, e_gmTup, e_gmSub, e_mVar, e_mC, e_mOp, e_mtB, e_mtT, e_mtNot, e_mtAnd, e_mtOr, e_mAnd, e_mOr, e_mAndT, e_mOrT, e_mIf, e_mNotB, e_mChain, e_maNil, e_maCons, e_mTup, e_mCall, e_mFld, e_mProp, e_mMeth, e_mUnO, e_mBinO, e_mCallO, e_mCMeth, e_mRaise, e_mTry, e_mFn, e_mNeg, e_mIsiB, e_mIsiO, e_mFor, e_miRange1, e_miRange2, e_miTup, e_body, e_addII, e_addIB, e_addSS, e_addTT, e_subII, e_mulII, e_fdivII, e_modII, e_powII, e_ltII, e_leII, e_gtII, e_geII, e_is, e_isNot, e_ixT, e_ixS, e_ixD, e_inD, e_fLenS, e_fLenT, e_fMax2, e_fMin2, e_fAbs, e_fIntI, e_fIntB, e_fBoolI, e_fBoolB, e_mExcF, e_tryNil, e_tryCons, e_mBM, e_mEqO, e_mNeO, e_fLenO, e_fBoolO, e_mtTO, e_mInO, e_mNotInO, e_mGetO, e_mtYes, putD, List.getElem?_cons_zero, List.getElem?_cons_succ, List.set_cons_zero, List.set_cons_succ, List.map_cons, List.map_nil, List.length_cons, List.length_nil, List.cons_append, List.nil_append, List.append_nil, List.replicate, Nat.reduceAdd, Nat.reduceSub, Nat.reduceLeDiff, Nat.zero_add, true_and, and_true, reduceIte, Bool.false_eq_true, Bool.true_eq_false, Bool.not_true, Bool.not_false, w_mLst, w_mMake, w_miLst, w_gmUnl, w_mComp, compL_nil, w_compL, w_mSetF, w_addRR]
    refine law9 (w.base fun _ _ m => by cases m) hz fun S2 f4 f5 f6 f7 f8 f9 w2 => ?_
    exact ih _ _ ⟨fun y hy => hp y (List.mem_cons_of_mem _ hy), ⟨_, _, _, _, _, _, _, rfl⟩, w.back w2⟩
  · intro d m
    simp only [List.mem_cons, List.not_mem_nil, or_false] at m
    rcases m with rfl | rfl
    · exact ⟨_, rfl, .inl rfl⟩
    · exact ⟨_, rfl, .inr rfl⟩
theorem law11 {r : Nat} {ns : List Int} {i : Int} (h0 : S[r]? = some (.frz (ns.map .int))) (hi : 0 ≤ i) (h : ∀ S' e2 e3 e4 e5 e6 e7 e8 e9, S'[r]? = some (.frz (ns.map .int)) → (∃ n, Src S' n) → md.nx [some (.ref r), some (.int i), e2, e3, e4, e5, e6, e7, e8, e9] S') :
    b_law_11 md [some (.ref r), some (.int i), c2, c3, c4, c5, c6, c7, c8, c9] S := by
  rw [e_b_law_11]
  simp only [e_mNext, e_mSeq, e_mExpr, e_mRet, e_mRetN, e_mIfS, e_mBreak, e_mCont, e_mAsg, e_mPar, e_gmName, e_gmNil, e_gmCons, e_gmTup, e_gmSub, e_mVar, e_mC, e_mOp, e_mtB, e_mtT, e_mtNot, e_mtAnd, e_mtOr, e_mAnd, e_mOr, e_mAndT, e_mOrT, e_mIf, e_mNotB, e_mChain, e_maNil, e_maCons, e_mTup, e_mCall, e_mFld, e_mProp, e_mMeth, e_mUnO, e_mBinO, e_mCallO, e_mCMeth, e_mRaise, e_mTry, e_mFn, e_mNeg, e_mIsiB, e_mIsiO, e_mFor, e_miRange1, e_miRange2, e_miTup, e_body, e_addII, e_addIB, e_addSS, e_addTT, e_subII, e_mulII, e_fdivII, e_modII, e_powII, e_ltII, e_leII, e_gtII, e_geII, e_is, e_isNot, e_ixT, e_ixS, e_ixD, e_inD, e_fLenS, e_fLenT, e_fMax2, e_fMin2, e_fAbs, e_fIntI, e_fIntB, e_fBoolI, e_fBoolB, e_mExcF, e_tryNil, e_tryCons, e_mBM, e_mEqO, e_mNeO, e_fLenO, e_fBoolO, e_mtTO, e_mInO, e_mNotInO, e_mGetO, e_mtYes, putD, List.getElem?_cons_zero, List.getElem?_cons_succ, List.set_cons_zero, List.set_cons_succ, List.map_cons, List.map_nil, List.length_cons, List.length_nil, List.cons_append, List.nil_append, List.append_nil, List.replicate, Nat.reduceAdd, Nat.reduceSub, Nat.reduceLeDiff, Nat.zero_add, true_and, and_true, reduceIte, Bool.false_eq_true, Bool.true_eq_false, Bool.not_true, Bool.not_false, w_mLst, w_mMake, w_miLst, w_gmUnl, w_mComp, compL_nil, w_compL, w_mSetF, w_addRR]
  have pos := (List.getElem?_eq_some_iff.mp h0).1
  refine source_ok h0 hi fun o s1 => ?_
  have w := W.refl s1
  refine law10 w fun S' e3 e4 e5 e6 e7 e8 e9 w => ?_
  exact h S' _ _ _ _ _ _ _ _ (w.fr.get (Ext.app.get h0) (by omega)) ⟨_, w.src⟩
end
theorem rangeD_nn : ∀ (n : Nat) (lo : Int), 0 ≤ lo → ∀ d ∈ rangeD lo n, ∃ i : Int, d = .int i ∧ 0 ≤ i
  | 0, _, _, d, h => by unfold rangeD at h; simp at h
  | n + 1, lo, h0, d, h => by
    unfold rangeD at h
    rcases List.mem_cons.mp h with h | h
    · exact ⟨lo, h, h0⟩
    · exact rangeD_nn n (lo + 1) (by omega) d h
theorem rangeD_ne {k : Int} (h : 1 ≤ k) : rangeD 0 k.toNat ≠ [] := by
  cases e : k.toNat with
  | zero => omega
  | succ n => unfold rangeD; simp
theorem law_pure (ns : List Int) (hlen : ns.length ≤ 63) (_hb : ∀ i ∈ ns, Builtin.Int.intBits i ≤ 1048576) : u_law [.ref 0] [.frz (ns.map D.int)] (fun d _ => d = .bl true) fun _ _ => False := by
  rw [e_u_law, e_b_law]
  simp only [e_mNext, e_mSeq, e_mExpr, e_mRet, e_mRetN, e_mIfS, e_mBreak, e_mCont, e_mAsg, e_mPar, e_gmName, e_gmNil, e_gmCons, e_gmTup, e_gmSub, e_mVar, e_mC, e_mOp, e_mtB, e_mtT, e_mtNot, e_mtAnd, e_mtOr, e_mAnd, e_mOr, e_mAndT, e_mOrT, e_mIf, e_mNotB, e_mChain, e_maNil, e_maCons, e_mTup, e_mCall, e_mFld, e_mProp, e_mMeth, e_mUnO, e_mBinO, e_mCallO, e_mCMeth, e_mRaise, e_mTry, e_mFn, e_mNeg, e_mIsiB, e_mIsiO, e_mFor, e_miRange1, e_miRange2, e_miTup, e_body, e_addII, e_addIB, e_addSS, e_addTT, e_subII, e_mulII, e_fdivII, e_modII, e_powII, e_ltII, e_leII, e_gtII, e_geII, e_is, e_isNot, e_ixT, e_ixS, e_ixD, e_inD, e_fLenS, e_fLenT, e_fMax2, e_fMin2, e_fAbs, e_fIntI, e_fIntB, e_fBoolI, e_fBoolB, e_mExcF, e_tryNil, e_tryCons, e_mBM, e_mEqO, e_mNeO, e_fLenO, e_fBoolO, e_mtTO, e_mInO, e_mNotInO, e_mGetO, e_mtYes, putD, List.getElem?_cons_zero, List.getElem?_cons_succ, List.set_cons_zero, List.set_cons_succ, List.map_cons, List.map_nil, List.length_cons, List.length_nil, List.cons_append, List.nil_append, List.append_nil, List.replicate, Nat.reduceAdd, Nat.reduceSub, Nat.reduceLeDiff, Nat.zero_add, true_and, and_true, reduceIte, Bool.false_eq_true, Bool.true_eq_false, Bool.not_true, Bool.not_false, w_mLst, w_mMake, w_miLst, w_gmUnl, w_mComp, compL_nil, w_compL, w_mSetF, w_addRR, seqO]
  refine ⟨?_, ?_⟩
  · simp only [List.length_map]
    split <;> split <;> omega
  refine forL_ind (fun items sd S' => (∀ d ∈ items, ∃ i : Int, d = .int i ∧ 0 ≤ i) ∧ S'[0]? = some (.frz (ns.map D.int)) ∧ (items = [] → ∃ n, Src S' n) ∧ ∃ c1 c2 c3 c4 c5 c6 c7 c8 c9, sd = [some (.ref 0), c1, c2, c3, c4, c5, c6, c7, c8, c9]) ?_ ?_ _ _ _ ⟨rangeD_nn _ _ (by decide), rfl, fun e => absurd e (rangeD_ne (by split <;> split <;> omega)), none, none, none, none, none, none, none, none, none, rfl⟩
  · rintro sd S' ⟨_, _, hs, c1, c2, c3, c4, c5, c6, c7, c8, c9, rfl⟩
    obtain ⟨n, s⟩ := hs rfl
    have w := W.refl s
    refine ⟨trivial, ?_⟩
    simp only [e_mNext, e_mSeq, e_mExpr, e_mRet, e_mRetN, e_mIfS, e_mBreak, e_mCont, e_mAsg, e_mPar, e_gmName, e_gmNil, e_gmCons, e_gmTup, e_gmSub, e_mVar, e_mC, e_mOp, e_mtB, e_mtT, e_mtNot, e_mtAnd, e_mtOr, e_mAnd, e_mOr, e_mAndT, e_mOrT, e_mIf, e_mNotB, e_mChain, e_maNil, e_maCons, e_mTup, e_mCall, e_mFld, e_mProp, e_mMeth, e_mUnO, e_mBinO, e_mCallO, e_mCMeth, e_mRaise, e_mTry, e_mFn, e_mNeg, e_mIsiB, e_mIsiO, e_mFor, e_miRange1, e_miRange2, e_miTup, e_body, e_addII, e_addIB, e_addSS, e_addTT, e_subII, e_mulII, e_fdivII, e_modII, e_powII, e_ltII, e_leII, e_gtII, e_geII, e_is, e_isNot, e_ixT, e_ixS, e_ixD, e_inD, e_fLenS, e_fLenT, e_fMax2, e_fMin2, e_fAbs, e_fIntI, e_fIntB, e_fBoolI, e_fBoolB, e_mExcF, e_tryNil, e_tryCons, e_mBM, e_mEqO, e_mNeO, e_fLenO, e_fBoolO, e_mtTO, e_mInO, e_mNotInO, e_mGetO, e_mtYes, putD, List.getElem?_cons_zero, List.getElem?_cons_succ, List.set_cons_zero, List.set_cons_succ, List.map_cons, List.map_nil, List.length_cons, List.length_nil, List.cons_append, List.nil_append, List.append_nil, List.replicate, Nat.reduceAdd, Nat.reduceSub, Nat.reduceLeDiff, Nat.zero_add, true_and, and_true, reduceIte, Bool.false_eq_true, Bool.true_eq_false, Bool.not_true, Bool.not_false, w_mLst, w_mMake, w_miLst, w_gmUnl, w_mComp, compL_nil, w_compL, w_mSetF, w_addRR]
    refine ⟨(sl_pos (by simp)), ?_⟩
    intro j1 S1 e1 e2
    refine syw (z := "square") (p := (0, 0)) w e1 e2 (.inl rfl) (by decide) (hc_pos _) fun S2 w => ⟨rfl, ?_⟩
    refine sboolO_w w (a := .one) (by repeat (first | exact List.Mem.head _ | apply List.Mem.tail)) ?_
    simp only [Sy.beq_refl, Bool.not_true, Bool.not_false, e_mNext, e_mSeq, e_mExpr, e_mRet, e_mRetN, e_mIfS, e_mBreak, e_mCont, e_mAsg, e_mPar, e_gmName, e_gmNil, e_gmCons, e_gmTup, e_gmSub, e_mVar, e_mC, e_mOp, e_mtB, e_mtT, e_mtNot, e_mtAnd, e_mtOr, e_mAnd, e_mOr, e_mAndT, e_mOrT, e_mIf, e_mNotB, e_mChain, e_maNil, e_maCons, e_mTup, e_mCall, e_mFld, e_mProp, e_mMeth, e_mUnO, e_mBinO, e_mCallO, e_mCMeth, e_mRaise, e_mTry, e_mFn, e_mNeg, e_mIsiB, e_mIsiO, e_mFor, e_miRange1, e_miRange2, e_miTup, e_body, e_addII, e_addIB, e_addSS, e_addTT, e_subII, e_mulII, e_fdivII, e_modII, e_powII, e_ltII, e_leII, e_gtII, e_geII, e_is, e_isNot, e_ixT, e_ixS, e_ixD, e_inD, e_fLenS, e_fLenT, e_fMax2, e_fMin2, e_fAbs, e_fIntI, e_fIntB, e_fBoolI, e_fBoolB, e_mExcF, e_tryNil, e_tryCons, e_mBM, e_mEqO, e_mNeO, e_fLenO, e_fBoolO, e_mtTO, e_mInO, e_mNotInO, e_mGetO, e_mtYes, putD, List.getElem?_cons_zero, List.getElem?_cons_succ, List.set_cons_zero, List.set_cons_succ, List.map_cons, List.map_nil, List.length_cons, List.length_nil, List.cons_append, List.nil_append, List.append_nil, List.replicate, Nat.reduceAdd, Nat.reduceSub, Nat.reduceLeDiff, Nat.zero_add, true_and, and_true, reduceIte, Bool.false_eq_true, Bool.true_eq_false, Bool.not_true, Bool.not_false, w_mLst, w_mMake, w_miLst, w_gmUnl, w_mComp, compL_nil, w_compL, w_mSetF, w_addRR]
    refine ⟨(sl_pos (by simp)), ?_⟩
    intro j2 S3 e1 e2
    refine syw (z := "square") (p := (0, 0)) w e1 e2 (.inl rfl) (by decide) (hc_pos _) fun S2 w => ⟨rfl, ?_⟩
    refine sboolO_w w (a := ⟨(0, 0), 0, true⟩) (by repeat (first | exact List.Mem.head _ | apply List.Mem.tail)) ?_
    rfl
  · rintro d ds sd S' ⟨hi, h0, _, c1, c2, c3, c4, c5, c6, c7, c8, c9, rfl⟩ ih
    refine ⟨trivial, ?_⟩
    obtain ⟨i, rfl, hi0⟩ := hi d List.mem_cons_self
    refine law11 h0 hi0 fun S2 e2 e3 e4 e5 e6 e7 e8 e9 h2 hs => ?_
    exact ih _ _ ⟨fun y hy => hi y (List.mem_cons_of_mem _ hy), h2, fun _ => hs, _, _, _, _, _, _, _, _, _, rfl⟩
end Lw

namespace Lw
open PySem PySem.Spec PyProof.Rows L2
/-! ### the text -/
abbrev top (i : Nat) : Stmt := PySem.Challenge.pw_loopwalks_k44_whole_symmetries_form_a_gr.main.body.getD i (.Pass ⟨0, 0, 0, 0⟩)
def bodyOf (s : Stmt) : List Stmt := match s with
  | .ClassDef _ _ _ b _ _ _ _ _ _ _ => b
  | _ => []
abbrev sub (i j : Nat) : Stmt := (bodyOf (top i)).getD j (.Pass ⟨0, 0, 0, 0⟩)
abbrev s__law_source : Stmt := top 24
abbrev d__law_source : Df := ⟨gA "_law_source", "_law_source", "_law_source", defArgs s__law_source, defBody s__law_source, defScope s__law_source, []⟩
abbrev s__law_draw : Stmt := top 25
abbrev d__law_draw : Df := ⟨gA "_law_draw", "_law_draw", "_law_draw", defArgs s__law_draw, defBody s__law_draw, defScope s__law_draw, []⟩
abbrev s__law_big : Stmt := top 29
abbrev d__law_big : Df := ⟨gA "_law_big", "_law_big", "_law_big", defArgs s__law_big, defBody s__law_big, defScope s__law_big, []⟩
abbrev s__law_steps : Stmt := top 26
abbrev d__law_steps : Df := ⟨gA "_law_steps", "_law_steps", "_law_steps", defArgs s__law_steps, defBody s__law_steps, defScope s__law_steps, []⟩
abbrev s__law_parts : Stmt := top 32
abbrev d__law_parts : Df := ⟨gA "_law_parts", "_law_parts", "_law_parts", defArgs s__law_parts, defBody s__law_parts, defScope s__law_parts, []⟩
abbrev s_is_net : Stmt := top 12
abbrev d_is_net : Df := ⟨gA "is_net", "is_net", "is_net", defArgs s_is_net, defBody s_is_net, defScope s_is_net, []⟩
abbrev s_InvalidNet_init : Stmt := sub 3 0
abbrev d_InvalidNet_init : Df := ⟨mA "InvalidNet" "__init__", "__init__", "InvalidNet.__init__", defArgs s_InvalidNet_init, defBody s_InvalidNet_init, defScope s_InvalidNet_init, []⟩
abbrev s_check_net : Stmt := top 13
abbrev d_check_net : Df := ⟨gA "check_net", "check_net", "check_net", defArgs s_check_net, defBody s_check_net, defScope s_check_net, []⟩
abbrev s_is_integer : Stmt := top 10
abbrev d_is_integer : Df := ⟨gA "is_integer", "is_integer", "is_integer", defArgs s_is_integer, defBody s_is_integer, defScope s_is_integer, []⟩
abbrev s_is_place : Stmt := top 11
abbrev d_is_place : Df := ⟨gA "is_place", "is_place", "is_place", defArgs s_is_place, defBody s_is_place, defScope s_is_place, []⟩
abbrev s_InvalidPlace_init : Stmt := sub 4 0
abbrev d_InvalidPlace_init : Df := ⟨mA "InvalidPlace" "__init__", "__init__", "InvalidPlace.__init__", defArgs s_InvalidPlace_init, defBody s_InvalidPlace_init, defScope s_InvalidPlace_init, []⟩
abbrev s_check_place : Stmt := top 14
abbrev d_check_place : Df := ⟨gA "check_place", "check_place", "check_place", defArgs s_check_place, defBody s_check_place, defScope s_check_place, []⟩
abbrev s_heading_count : Stmt := top 15
abbrev d_heading_count : Df := ⟨gA "heading_count", "heading_count", "heading_count", defArgs s_heading_count, defBody s_heading_count, defScope s_heading_count, []⟩
abbrev s_InvalidNumber_init : Stmt := sub 5 0
abbrev d_InvalidNumber_init : Df := ⟨mA "InvalidNumber" "__init__", "__init__", "InvalidNumber.__init__", defArgs s_InvalidNumber_init, defBody s_InvalidNumber_init, defScope s_InvalidNumber_init, []⟩
abbrev s_Symmetry_init : Stmt := sub 22 0
abbrev d_Symmetry_init : Df := ⟨mA "Symmetry" "__init__", "__init__", "Symmetry.__init__", defArgs s_Symmetry_init, defBody s_Symmetry_init, defScope s_Symmetry_init, [.bl false]⟩
abbrev s__law_made : Stmt := top 33
abbrev d__law_made : Df := ⟨gA "_law_made", "_law_made", "_law_made", defArgs s__law_made, defBody s__law_made, defScope s__law_made, []⟩
abbrev s_Symmetry_net : Stmt := sub 22 1
abbrev d_Symmetry_net : Df := ⟨pA "Symmetry" "net", "net", "Symmetry.net", defArgs s_Symmetry_net, defBody s_Symmetry_net, defScope s_Symmetry_net, []⟩
abbrev s_Symmetry_place : Stmt := sub 22 2
abbrev d_Symmetry_place : Df := ⟨pA "Symmetry" "place", "place", "Symmetry.place", defArgs s_Symmetry_place, defBody s_Symmetry_place, defScope s_Symmetry_place, []⟩
abbrev s_Symmetry_turn : Stmt := sub 22 3
abbrev d_Symmetry_turn : Df := ⟨pA "Symmetry" "turn", "turn", "Symmetry.turn", defArgs s_Symmetry_turn, defBody s_Symmetry_turn, defScope s_Symmetry_turn, []⟩
abbrev s_Symmetry_mirrored : Stmt := sub 22 4
abbrev d_Symmetry_mirrored : Df := ⟨pA "Symmetry" "mirrored", "mirrored", "Symmetry.mirrored", defArgs s_Symmetry_mirrored, defBody s_Symmetry_mirrored, defScope s_Symmetry_mirrored, []⟩
abbrev s_Symmetry_bool : Stmt := sub 22 10
abbrev d_Symmetry_bool : Df := ⟨mA "Symmetry" "__bool__", "__bool__", "Symmetry.__bool__", defArgs s_Symmetry_bool, defBody s_Symmetry_bool, defScope s_Symmetry_bool, []⟩
abbrev s_scaled : Stmt := top 17
abbrev d_scaled : Df := ⟨gA "scaled", "scaled", "scaled", defArgs s_scaled, defBody s_scaled, defScope s_scaled, []⟩
abbrev s_flipped : Stmt := top 20
abbrev d_flipped : Df := ⟨gA "flipped", "flipped", "flipped", defArgs s_flipped, defBody s_flipped, defScope s_flipped, []⟩
abbrev s_turned : Stmt := top 18
abbrev d_turned : Df := ⟨gA "turned", "turned", "turned", defArgs s_turned, defBody s_turned, defScope s_turned, []⟩
abbrev s_linear : Stmt := top 21
abbrev d_linear : Df := ⟨gA "linear", "linear", "linear", defArgs s_linear, defBody s_linear, defScope s_linear, []⟩
abbrev s_Symmetry_invert : Stmt := sub 22 12
abbrev d_Symmetry_invert : Df := ⟨mA "Symmetry" "__invert__", "__invert__", "Symmetry.__invert__", defArgs s_Symmetry_invert, defBody s_Symmetry_invert, defScope s_Symmetry_invert, []⟩
abbrev s_added : Stmt := top 16
abbrev d_added : Df := ⟨gA "added", "added", "added", defArgs s_added, defBody s_added, defScope s_added, []⟩
abbrev s_Symmetry_moved : Stmt := sub 22 6
abbrev d_Symmetry_moved : Df := ⟨mA "Symmetry" "moved", "moved", "Symmetry.moved", defArgs s_Symmetry_moved, defBody s_Symmetry_moved, defScope s_Symmetry_moved, []⟩
abbrev s_Symmetry_call : Stmt := sub 22 8
abbrev d_Symmetry_call : Df := ⟨mA "Symmetry" "__call__", "__call__", "Symmetry.__call__", defArgs s_Symmetry_call, defBody s_Symmetry_call, defScope s_Symmetry_call, []⟩
abbrev s__law_flip : Stmt := top 30
abbrev d__law_flip : Df := ⟨gA "_law_flip", "_law_flip", "_law_flip", defArgs s__law_flip, defBody s__law_flip, defScope s__law_flip, []⟩
abbrev s__law_rotated : Stmt := top 27
abbrev d__law_rotated : Df := ⟨gA "_law_rotated", "_law_rotated", "_law_rotated", defArgs s__law_rotated, defBody s__law_rotated, defScope s__law_rotated, []⟩
abbrev s__law_taken : Stmt := top 31
abbrev d__law_taken : Df := ⟨gA "_law_taken", "_law_taken", "_law_taken", defArgs s__law_taken, defBody s__law_taken, defScope s__law_taken, []⟩
abbrev s__law_next : Stmt := top 34
abbrev d__law_next : Df := ⟨gA "_law_next", "_law_next", "_law_next", defArgs s__law_next, defBody s__law_next, defScope s__law_next, []⟩
abbrev s_InvalidOperand_init : Stmt := sub 6 0
abbrev d_InvalidOperand_init : Df := ⟨mA "InvalidOperand" "__init__", "__init__", "InvalidOperand.__init__", defArgs s_InvalidOperand_init, defBody s_InvalidOperand_init, defScope s_InvalidOperand_init, []⟩
abbrev s_NetMismatch_init : Stmt := sub 7 0
abbrev d_NetMismatch_init : Df := ⟨mA "NetMismatch" "__init__", "__init__", "NetMismatch.__init__", defArgs s_NetMismatch_init, defBody s_NetMismatch_init, defScope s_NetMismatch_init, []⟩
abbrev s_Symmetry_mul : Stmt := sub 22 11
abbrev d_Symmetry_mul : Df := ⟨mA "Symmetry" "__mul__", "__mul__", "Symmetry.__mul__", defArgs s_Symmetry_mul, defBody s_Symmetry_mul, defScope s_Symmetry_mul, []⟩
abbrev s_Symmetry_eq : Stmt := sub 22 9
abbrev d_Symmetry_eq : Df := ⟨mA "Symmetry" "__eq__", "__eq__", "Symmetry.__eq__", defArgs s_Symmetry_eq, defBody s_Symmetry_eq, defScope s_Symmetry_eq, []⟩
abbrev s__law_one_right : Stmt := top 35
abbrev d__law_one_right : Df := ⟨gA "_law_one_right", "_law_one_right", "_law_one_right", defArgs s__law_one_right, defBody s__law_one_right, defScope s__law_one_right, []⟩
abbrev s__law_pair_right : Stmt := top 36
abbrev d__law_pair_right : Df := ⟨gA "_law_pair_right", "_law_pair_right", "_law_pair_right", defArgs s__law_pair_right, defBody s__law_pair_right, defScope s__law_pair_right, []⟩
abbrev s_law : Stmt := top 37
abbrev d_law : Df := ⟨gA "law", "law", "law", defArgs s_law, defBody s_law, defScope s_law, []⟩
abbrev fn : List Df := [d__law_source, d__law_draw, d__law_big, d__law_steps, d__law_parts, d_is_net, d_InvalidNet_init, d_check_net, d_is_integer, d_is_place, d_InvalidPlace_init, d_check_place, d_heading_count, d_InvalidNumber_init, d_Symmetry_init, d__law_made, d_Symmetry_net, d_Symmetry_place, d_Symmetry_turn, d_Symmetry_mirrored, d_Symmetry_bool, d_scaled, d_flipped, d_turned, d_linear, d_Symmetry_invert, d_added, d_Symmetry_moved, d_Symmetry_call, d__law_flip, d__law_rotated, d__law_taken, d__law_next, d_InvalidOperand_init, d_NetMismatch_init, d_Symmetry_mul, d_Symmetry_eq, d__law_one_right, d__law_pair_right, d_law]
abbrev fa : List He.Fa := [.free "len", .free "min", .free "max", .free "range", .glo "_law_source", .glo "_law_draw", .glo "_law_big", .glo "_law_steps", .glo "_law_parts", .free "isinstance", .glo "Symmetry", .free "str", .glo "STEPS", .glo "is_net", .glo "WalkError", .glo "InvalidNet", .glo "check_net", .free "int", .free "bool", .free "tuple", .glo "is_integer", .glo "is_place", .glo "InvalidPlace", .glo "check_place", .glo "heading_count", .glo "InvalidNumber", .noat "Symmetry" "own_net", .noat "Symmetry" "own_place", .noat "Symmetry" "own_turn", .noat "Symmetry" "own_mirrored", .mkr "Symmetry", .glo "_law_made", .glo "flipped", .glo "turned", .glo "scaled", .glo "linear", .glo "added", .meth "Symmetry" "moved", .glo "_law_flip", .glo "_law_rotated", .glo "_law_taken", .glo "_law_next", .glo "InvalidOperand", .glo "NetMismatch", .glo "_law_one_right", .glo "_law_pair_right", .glo "law"]
abbrev ts : List Tb := [(gA "STEPS", ["square", "triangle"])]
abbrev xs : List Xf := [xOwn "Symmetry", xIsB CLS "str", xTab "STEPS" tab_STEPS, xBaseO "WalkError" "ValueError.__init__", xExc "InvalidNet" "ValueError.__new__" [.type "ValueError", .type "Exception", .type "BaseException", .type "object"], xIni "InvalidNet", xNo "InvalidNet" "given", xIsB CLS "int", xIsB CLS "bool", xIsB CLS "tuple", xExc "InvalidPlace" "ValueError.__new__" [.type "ValueError", .type "Exception", .type "BaseException", .type "object"], xIni "InvalidPlace", xNo "InvalidPlace" "given", xExc "InvalidNumber" "ValueError.__new__" [.type "ValueError", .type "Exception", .type "BaseException", .type "object"], xIni "InvalidNumber", xNo "InvalidNumber" "given", xProp "Symmetry" "mirrored", xProp "Symmetry" "turn", xProp "Symmetry" "place", xProp "Symmetry" "net", xOp "Symmetry" "__bool__", xOp "Symmetry" "__invert__", xOp "Symmetry" "__call__", xIsO CLS "Symmetry", xExc "InvalidOperand" "ValueError.__new__" [.type "ValueError", .type "Exception", .type "BaseException", .type "object"], xIni "InvalidOperand", xNo "InvalidOperand" "given", xExc "NetMismatch" "ValueError.__new__" [.type "ValueError", .type "Exception", .type "BaseException", .type "object"], xIni "NetMismatch", xNo "NetMismatch" "first", xNo "NetMismatch" "second", xOp "Symmetry" "__eq__", xEqF CLS "Symmetry", xBin "Symmetry" "mul", xOp "Symmetry" "__mul__", xNeF "Symmetry"]
abbrev Cy := Ctx fa fn ts xs
theorem kB_int : ∀ s ∈ kinds, kitB s "int" = some (isB "int" s) := by decide +kernel
theorem kB_bool : ∀ s ∈ kinds, kitB s "bool" = some (isB "bool" s) := by decide +kernel
theorem kB_str : ∀ s ∈ kinds, kitB s "str" = some (isB "str" s) := by decide +kernel
theorem kB_list : ∀ s ∈ kinds, kitB s "list" = some (isB "list" s) := by decide +kernel
theorem kB_tuple : ∀ s ∈ kinds, kitB s "tuple" = some (isB "tuple" s) := by decide +kernel
section
variable {w : World} {K : PySem.W.Frag} {mg : Mg}
theorem ownG (Y : Cy w K mg) : ∀ k ∈ CLS, mg k = some (.ref (He.ga K k)) := by
  intro k hk
  simp only [CLS, List.mem_cons, List.not_mem_nil, or_false] at hk
  rcases hk with rfl
  · exact Y.glo 10
theorem owns (Y : Cy w K mg) : Owns K mg CLS := ⟨fun k hk => by
  have e := ownG Y k hk
  simp only [CLS, List.mem_cons, List.not_mem_nil, or_false] at hk
  rcases hk with rfl
  · exact ⟨_, e, xOwn_ok (Y.x 0)⟩⟩
end
section
variable {P : Program} {w : World} {K : PySem.W.Frag} {mg : Mg} {base : Heap}
theorem ktab_STEPS {w : World} {K : PySem.W.Frag} {mg : Mg} (Y : Cy w K mg) : KTab K w mg "STEPS" tab_STEPS := tab_ok (Y.glo 12) (by exact Y.tab 0 (t := (gA "STEPS", ["square", "triangle"]))) (Y.x 2)
theorem ok__law_source (Y : Cy w K mg) : FdG P w K mg base 2 (He.ga K "_law_source") u__law_source [] := by
  obtain ⟨fd, F⟩ := Y.def_ 0 (d := d__law_source)
  have sc : FnScope ["_law_script", "_law_k", "_law_cell", "_law_number", "_law_seed"] ["_law_script", "_law_k"] (defScope s__law_source) := ⟨rfl, rfl, rfl, by decide +kernel, rfl, by decide +kernel, by decide +kernel⟩
  rw [e_u__law_source]
  refine fdg_of F (okD2 F sc rfl rfl fun cdv A outer s H E tk po co => ?_) fun _ _ _ _ _ _ us hl => match us, hl with | [_, _], _ => rfl
  rw [e_b__law_source, e_b__law_source_4, e_b__law_source_3, e_b__law_source_2, e_b__law_source_1]
  exact (mss_cons (ms_set (i := 2) sc.nd rfl (Or.inl rfl) me_int) (mss_cons (ms_if (mt_cmp om_lt (me_var 1 (pv 1)) (me_fnB (cm_len rfl) rfl (Y.free 0) PyProof.Rows.Boot.len (ma_cons (me_var 0 (pv 0)) ma_nil)) (nomark _)) (mss_one (ms_set (i := 2) sc.nd rfl (Or.inl rfl) (me_ix (im_seq rfl) (me_var 0 (pv 0)) (me_var 1 (pv 1)) (fun _ _ => rfl)))) mss_nil) (mss_cons (ms_set (i := 3) sc.nd rfl (Or.inl rfl) (me_fnB (cm_max2 rfl) rfl (Y.free 2) PyProof.Rows.Boot.max (ma_cons (me_var 2 (pv 2)) (ma_cons (me_op (om_sub) (me_neg me_int) (me_var 2 (pv 2))) ma_nil)))) (mss_cons (ms_set (i := 4) sc.nd rfl (Or.inl rfl) (me_op (om_mod) (me_op (om_add rfl) (me_op (om_add rfl) (me_op (om_mul) (me_op (om_mod) (me_var 3 (pv 3)) me_int) me_int) (me_op (om_mul) me_int (me_var 1 (pv 1)))) me_int) me_int)) (mss_cons (ms_if (mt_cmp om_lt (me_var 3 (pv 3)) (me_op (om_pow) me_int me_int) (nomark _)) (mss_one (ms_set (i := 3) sc.nd rfl (Or.inl rfl) me_int)) mss_nil) (mss_one (ms_ret (me_lst (ma_cons (me_var 3 (pv 3)) (ma_cons (me_var 4 (pv 4)) ma_nil))))))))))
theorem ok__law_draw (Y : Cy w K mg) : FdG P w K mg base 2 (He.ga K "_law_draw") u__law_draw [] := by
  obtain ⟨fd, F⟩ := Y.def_ 1 (d := d__law_draw)
  have sc : FnScope ["_law_source_here", "_law_amount", "_law_digit"] ["_law_source_here", "_law_amount"] (defScope s__law_draw) := ⟨rfl, rfl, rfl, by decide +kernel, rfl, by decide +kernel, by decide +kernel⟩
  rw [e_u__law_draw]
  refine fdg_of F (okD2 F sc rfl rfl fun cdv A outer s H E tk po co => ?_) fun _ _ _ _ _ _ us hl => match us, hl with | [_, _], _ => rfl
  rw [e_b__law_draw, e_b__law_draw_3, e_b__law_draw_2, e_b__law_draw_1]
  exact (mss_cons (ms_if (mt_cmp om_gt (me_ix (im_seq rfl) (me_var 0 (pv 0)) me_int (fun _ _ => rfl)) me_int (nomark _)) (mss_cons (ms_set (i := 2) sc.nd rfl (Or.inl rfl) (me_op (om_mod) (me_ix (im_seq rfl) (me_var 0 (pv 0)) me_int (fun _ _ => rfl)) (me_var 1 (pv 1)))) (mss_cons (ms_asg (me_op (om_fdiv) (me_ix (im_seq rfl) (me_var 0 (pv 0)) me_int (fun _ _ => rfl)) (me_var 1 (pv 1))) (gm_sub (me_var 0 (pv 0)) me_int)) (mss_one (ms_ret (me_var 2 (pv 2)))))) mss_nil) (mss_cons (ms_asg (me_op (om_mod) (me_op (om_add rfl) (me_op (om_mul) (me_ix (im_seq rfl) (me_var 0 (pv 0)) me_int (fun _ _ => rfl)) me_int) me_int) me_int) (gm_sub (me_var 0 (pv 0)) me_int)) (mss_one (ms_ret (me_op (om_mod) (me_op (om_fdiv) (me_op (om_mod) (me_op (om_mul) (me_ix (im_seq rfl) (me_var 0 (pv 0)) me_int (fun _ _ => rfl)) (me_ix (im_seq rfl) (me_var 0 (pv 0)) me_int (fun _ _ => rfl))) me_int) me_int) (me_var 1 (pv 1)))))))
theorem ok__law_big (Y : Cy w K mg) : FdG P w K mg base 3 (He.ga K "_law_big") u__law_big [] := by
  obtain ⟨fd, F⟩ := Y.def_ 2 (d := d__law_big)
  have sc : FnScope ["_law_source_here", "_law_digits", "_law_number", "_law_attempt"] ["_law_source_here"] (defScope s__law_big) := ⟨rfl, rfl, rfl, by decide +kernel, rfl, by decide +kernel, by decide +kernel⟩
  rw [e_u__law_big]
  refine fdg_of F (okD2 F sc rfl rfl fun cdv A outer s H E tk po co => ?_) fun _ _ _ _ _ _ us hl => match us, hl with | [_], _ => rfl
  rw [e_b__law_big, e_b__law_big_3, e_b__law_big_2, e_b__law_big_1]
  exact (mss_cons (ms_set (i := 1) sc.nd rfl (Or.inl rfl) (me_ix (im_seq rfl) (me_lst (ma_cons me_int (ma_cons me_int (ma_cons me_int (ma_cons me_int ma_nil))))) (me_call ((ok__law_draw Y).fn (by decide)) co rfl (Y.glo 5) (ma_cons (me_var 0 (pv 0)) (ma_cons me_int ma_nil))) (fun _ _ => rfl))) (mss_cons (ms_set (i := 2) sc.nd rfl (Or.inl rfl) (me_op (om_add rfl) (me_call ((ok__law_draw Y).fn (by decide)) co rfl (Y.glo 5) (ma_cons (me_var 0 (pv 0)) (ma_cons me_int ma_nil))) me_int)) (mss_cons (ms_for po rfl (pi_mrange1 (fun ha => pi_range1 rfl (Y.free 3) ha) (ma_cons (me_op (om_sub) (me_var 1 (pv 1)) me_int) ma_nil)) (gm_name (pg_name sc.nd rfl (Or.inl rfl))) (mss_one (ms_set (i := 2) sc.nd rfl (Or.inl rfl) (me_op (om_add rfl) (me_op (om_mul) me_int (me_var 2 (pv 2))) (me_call ((ok__law_draw Y).fn (by decide)) co rfl (Y.glo 5) (ma_cons (me_var 0 (pv 0)) (ma_cons me_int ma_nil))))))) (mss_one (ms_ret (me_var 2 (pv 2)))))))
theorem ok__law_steps (Y : Cy w K mg) : FdG P w K mg base 2 (He.ga K "_law_steps") u__law_steps [] := by
  obtain ⟨fd, F⟩ := Y.def_ 3 (d := d__law_steps)
  have sc : FnScope ["_law_kind_here"] ["_law_kind_here"] (defScope s__law_steps) := ⟨rfl, rfl, rfl, by decide +kernel, rfl, by decide +kernel, by decide +kernel⟩
  rw [e_u__law_steps]
  refine fdg_of F (okD2 F sc rfl rfl fun cdv A outer s H E tk po co => ?_) fun _ _ _ _ _ _ us hl => match us, hl with | [_], _ => rfl
  rw [e_b__law_steps, e_b__law_steps_1]
  exact (mss_cons (ms_if (mt_cmp (om_eq rfl co.u64) (me_var 0 (pv 0)) me_str (nomark _)) (mss_one (ms_ret (me_lst (ma_cons (me_tup (ma_cons me_int (ma_cons me_int ma_nil))) (ma_cons (me_tup (ma_cons me_int (ma_cons me_int ma_nil))) (ma_cons (me_tup (ma_cons (me_neg me_int) (ma_cons me_int ma_nil))) (ma_cons (me_tup (ma_cons me_int (ma_cons (me_neg me_int) ma_nil))) ma_nil))))))) mss_nil) (mss_one (ms_ret (me_lst (ma_cons (me_tup (ma_cons me_int (ma_cons me_int ma_nil))) (ma_cons (me_tup (ma_cons me_int (ma_cons me_int ma_nil))) (ma_cons (me_tup (ma_cons (me_neg me_int) (ma_cons me_int ma_nil))) (ma_cons (me_tup (ma_cons (me_neg me_int) (ma_cons me_int ma_nil))) (ma_cons (me_tup (ma_cons me_int (ma_cons (me_neg me_int) ma_nil))) (ma_cons (me_tup (ma_cons me_int (ma_cons (me_neg me_int) ma_nil))) ma_nil))))))))))
theorem ok__law_parts (Y : Cy w K mg) : FdG P w K mg base 3 (He.ga K "_law_parts") u__law_parts [] := by
  obtain ⟨fd, F⟩ := Y.def_ 4 (d := d__law_parts)
  have sc : FnScope ["_law_source_here", "_law_kind_here", "_law_wide", "_law_shift"] ["_law_source_here", "_law_kind_here", "_law_wide"] (defScope s__law_parts) := ⟨rfl, rfl, rfl, by decide +kernel, rfl, by decide +kernel, by decide +kernel⟩
  rw [e_u__law_parts]
  refine fdg_of F (okD2 F sc rfl rfl fun cdv A outer s H E tk po co => ?_) fun _ _ _ _ _ _ us hl => match us, hl with | [_, _, _], _ => rfl
  rw [e_b__law_parts]
  exact (mss_cons (ms_set (i := 3) sc.nd rfl (Or.inl rfl) (me_tup (ma_cons (me_op (om_sub) (me_call ((ok__law_draw Y).fn (by decide)) co rfl (Y.glo 5) (ma_cons (me_var 0 (pv 0)) (ma_cons (me_op (om_add rfl) (me_op (om_mul) me_int (me_var 2 (pv 2))) me_int) ma_nil))) (me_var 2 (pv 2))) (ma_cons (me_op (om_sub) (me_call ((ok__law_draw Y).fn (by decide)) co rfl (Y.glo 5) (ma_cons (me_var 0 (pv 0)) (ma_cons (me_op (om_add rfl) (me_op (om_mul) me_int (me_var 2 (pv 2))) me_int) ma_nil))) (me_var 2 (pv 2))) ma_nil)))) (mss_one (ms_ret (me_lst (ma_cons (me_var 3 (pv 3)) (ma_cons (me_call ((ok__law_draw Y).fn (by decide)) co rfl (Y.glo 5) (ma_cons (me_var 0 (pv 0)) (ma_cons (me_fnB (cm_len rfl) rfl (Y.free 0) PyProof.Rows.Boot.len (ma_cons (me_call ((ok__law_steps Y).fn (by decide)) co rfl (Y.glo 7) (ma_cons (me_var 1 (pv 1)) ma_nil)) ma_nil)) ma_nil))) (ma_cons (me_cmp (om_eq rfl co.u64) (me_call ((ok__law_draw Y).fn (by decide)) co rfl (Y.glo 5) (ma_cons (me_var 0 (pv 0)) (ma_cons me_int ma_nil))) me_int (nomark _)) ma_nil)))))))
theorem ok_is_net (Y : Cy w K mg) : FdG P w K mg base 2 (He.ga K "is_net") u_is_net [] := by
  obtain ⟨fd, F⟩ := Y.def_ 5 (d := d_is_net)
  have sc : FnScope ["obj"] ["obj"] (defScope s_is_net) := ⟨rfl, rfl, rfl, by decide +kernel, rfl, by decide +kernel, by decide +kernel⟩
  rw [e_u_is_net]
  refine fdg_of F (okD2 F sc rfl rfl fun cdv A outer s H E tk po co => ?_) fun _ _ _ _ _ _ us hl => match us, hl with | [_], _ => rfl
  rw [e_b_is_net]
  exact (mss_one (ms_ret (me_and (me_isiB rfl (Y.free 9) PyProof.Rows.Boot.isinstance rfl (Y.free 11) PyProof.Rows.Boot.str (me_var 0 (pv 0)) rfl rfl (owns Y) kB_str (xIsB_ok (Y.x 1) (ownG Y))) (me_one (me_cmp (om_inT rfl rfl (ktab_STEPS Y)) (me_var 0 (pv 0)) (me_nm (v := .ref _) (pe_glob rfl (Y.glo 12) rfl) rfl (Y.glo 12)) (by with_unfolding_all rfl))))))
theorem x_InvalidNet (Y : Cy w K mg) : XClsG P w K mg base "InvalidNet" (He.ga K "InvalidNet") ["given"] := by
  obtain ⟨fd, F⟩ := Y.def_ 6 (d := d_InvalidNet_init)
  have TC : ExC K "ValueError" "ValueError.__new__" "ValueError.__init__" [.type "ValueError", .type "Exception", .type "BaseException", .type "object"] (He.ga K "InvalidNet") := xExc_ok eb_ValueError (Y.x 4)
  have sc : FnScope ["self", "given"] ["self", "given"] (defScope s_InvalidNet_init) := ⟨rfl, rfl, rfl, by decide +kernel, rfl, by decide +kernel, by decide +kernel⟩
  refine xcls1 (tx := "the object is not a net") TC (Y.glo 15) (Y.x 5) F sc (fun cdv A outer s H E => ?_) fun _ _ _ _ _ _ us hl => match us, hl with | [_, _], _ => rfl
  exact pss_cons (ps_expr (pe_eini TC (xBaseO_ok (mg := mg) (bn := "WalkError") (ini := "ValueError.__init__") (Y.x 3) (Y.glo 14)) rfl (by decide) (pa_cons (pv 0) (pa_cons pe_str pa_nil)))) (pss_one (ps_est TC (xNo_ok (Y.x 6)) (pv 0) (pv 1)))
theorem ok_check_net (Y : Cy w K mg) : FdG P w K mg base 3 (He.ga K "check_net") u_check_net [] := by
  obtain ⟨fd, F⟩ := Y.def_ 7 (d := d_check_net)
  have sc : FnScope ["obj"] ["obj"] (defScope s_check_net) := ⟨rfl, rfl, rfl, by decide +kernel, rfl, by decide +kernel, by decide +kernel⟩
  rw [e_u_check_net]
  refine fdg_of F (okD2 F sc rfl rfl fun cdv A outer s H E tk po co => ?_) fun _ _ _ _ _ _ us hl => match us, hl with | [_], _ => rfl
  rw [e_b_check_net]
  exact (mss_one (ms_if (mt_not (mt_val (me_call ((ok_is_net Y).fn (by decide)) co rfl (Y.glo 13) (ma_cons (me_var 0 (pv 0)) ma_nil)))) (mss_one (ms_raise (x_InvalidNet Y).x rfl (co.mono (by decide)) rfl (ma_cons (me_var 0 (pv 0)) ma_nil))) mss_nil))
theorem ok_is_integer (Y : Cy w K mg) : FdG P w K mg base 2 (He.ga K "is_integer") u_is_integer [] := by
  obtain ⟨fd, F⟩ := Y.def_ 8 (d := d_is_integer)
  have sc : FnScope ["obj"] ["obj"] (defScope s_is_integer) := ⟨rfl, rfl, rfl, by decide +kernel, rfl, by decide +kernel, by decide +kernel⟩
  rw [e_u_is_integer]
  refine fdg_of F (okD2 F sc rfl rfl fun cdv A outer s H E tk po co => ?_) fun _ _ _ _ _ _ us hl => match us, hl with | [_], _ => rfl
  rw [e_b_is_integer]
  exact (mss_one (ms_ret (me_and (me_isiB rfl (Y.free 9) PyProof.Rows.Boot.isinstance rfl (Y.free 17) PyProof.Rows.Boot.int (me_var 0 (pv 0)) rfl rfl (owns Y) kB_int (xIsB_ok (Y.x 7) (ownG Y))) (me_one (me_notT rfl (me_isiB rfl (Y.free 9) PyProof.Rows.Boot.isinstance rfl (Y.free 18) PyProof.Rows.Boot.bool (me_var 0 (pv 0)) rfl rfl (owns Y) kB_bool (xIsB_ok (Y.x 8) (ownG Y))))))))
theorem ok_is_place (Y : Cy w K mg) : FdG P w K mg base 3 (He.ga K "is_place") u_is_place [] := by
  obtain ⟨fd, F⟩ := Y.def_ 9 (d := d_is_place)
  have sc : FnScope ["obj"] ["obj"] (defScope s_is_place) := ⟨rfl, rfl, rfl, by decide +kernel, rfl, by decide +kernel, by decide +kernel⟩
  rw [e_u_is_place]
  refine fdg_of F (okD2 F sc rfl rfl fun cdv A outer s H E tk po co => ?_) fun _ _ _ _ _ _ us hl => match us, hl with | [_], _ => rfl
  rw [e_b_is_place]
  exact (mss_one (ms_ret (me_and (me_isiB rfl (Y.free 9) PyProof.Rows.Boot.isinstance rfl (Y.free 19) PyProof.Rows.Boot.tuple (me_var 0 (pv 0)) rfl rfl (owns Y) kB_tuple (xIsB_ok (Y.x 9) (ownG Y))) (me_and (me_cmp (om_eq rfl co.u64) (me_fnB (cm_len rfl) rfl (Y.free 0) PyProof.Rows.Boot.len (ma_cons (me_var 0 (pv 0)) ma_nil)) me_int (nomark _)) (me_and (me_call ((ok_is_integer Y).fn (by decide)) co rfl (Y.glo 20) (ma_cons (me_ix (im_seq rfl) (me_var 0 (pv 0)) me_int (fun _ _ => rfl)) ma_nil)) (me_one (me_call ((ok_is_integer Y).fn (by decide)) co rfl (Y.glo 20) (ma_cons (me_ix (im_seq rfl) (me_var 0 (pv 0)) me_int (fun _ _ => rfl)) ma_nil))))))))
theorem x_InvalidPlace (Y : Cy w K mg) : XClsG P w K mg base "InvalidPlace" (He.ga K "InvalidPlace") ["given"] := by
  obtain ⟨fd, F⟩ := Y.def_ 10 (d := d_InvalidPlace_init)
  have TC : ExC K "ValueError" "ValueError.__new__" "ValueError.__init__" [.type "ValueError", .type "Exception", .type "BaseException", .type "object"] (He.ga K "InvalidPlace") := xExc_ok eb_ValueError (Y.x 10)
  have sc : FnScope ["self", "given"] ["self", "given"] (defScope s_InvalidPlace_init) := ⟨rfl, rfl, rfl, by decide +kernel, rfl, by decide +kernel, by decide +kernel⟩
  refine xcls1 (tx := "the object is not a place") TC (Y.glo 22) (Y.x 11) F sc (fun cdv A outer s H E => ?_) fun _ _ _ _ _ _ us hl => match us, hl with | [_, _], _ => rfl
  exact pss_cons (ps_expr (pe_eini TC (xBaseO_ok (mg := mg) (bn := "WalkError") (ini := "ValueError.__init__") (Y.x 3) (Y.glo 14)) rfl (by decide) (pa_cons (pv 0) (pa_cons pe_str pa_nil)))) (pss_one (ps_est TC (xNo_ok (Y.x 12)) (pv 0) (pv 1)))
theorem ok_check_place (Y : Cy w K mg) : FdG P w K mg base 4 (He.ga K "check_place") u_check_place [] := by
  obtain ⟨fd, F⟩ := Y.def_ 11 (d := d_check_place)
  have sc : FnScope ["obj"] ["obj"] (defScope s_check_place) := ⟨rfl, rfl, rfl, by decide +kernel, rfl, by decide +kernel, by decide +kernel⟩
  rw [e_u_check_place]
  refine fdg_of F (okD2 F sc rfl rfl fun cdv A outer s H E tk po co => ?_) fun _ _ _ _ _ _ us hl => match us, hl with | [_], _ => rfl
  rw [e_b_check_place]
  exact (mss_one (ms_if (mt_not (mt_val (me_call ((ok_is_place Y).fn (by decide)) co rfl (Y.glo 21) (ma_cons (me_var 0 (pv 0)) ma_nil)))) (mss_one (ms_raise (x_InvalidPlace Y).x rfl (co.mono (by decide)) rfl (ma_cons (me_var 0 (pv 0)) ma_nil))) mss_nil))
theorem ok_heading_count (Y : Cy w K mg) : FdG P w K mg base 2 (He.ga K "heading_count") u_heading_count [] := by
  obtain ⟨fd, F⟩ := Y.def_ 12 (d := d_heading_count)
  have sc : FnScope ["net"] ["net"] (defScope s_heading_count) := ⟨rfl, rfl, rfl, by decide +kernel, rfl, by decide +kernel, by decide +kernel⟩
  rw [e_u_heading_count]
  refine fdg_of F (okD2 F sc rfl rfl fun cdv A outer s H E tk po co => ?_) fun _ _ _ _ _ _ us hl => match us, hl with | [_], _ => rfl
  rw [e_b_heading_count]
  exact (mss_one (ms_ret (me_fnB (cm_len rfl) rfl (Y.free 0) PyProof.Rows.Boot.len (ma_cons (me_ix (im_tab rfl rfl (ktab_STEPS Y)) (me_nm (v := .ref _) (pe_glob rfl (Y.glo 12) rfl) rfl (Y.glo 12)) (me_var 0 (pv 0)) (fun _ _ => rfl)) ma_nil))))
theorem x_InvalidNumber (Y : Cy w K mg) : XClsG P w K mg base "InvalidNumber" (He.ga K "InvalidNumber") ["given"] := by
  obtain ⟨fd, F⟩ := Y.def_ 13 (d := d_InvalidNumber_init)
  have TC : ExC K "ValueError" "ValueError.__new__" "ValueError.__init__" [.type "ValueError", .type "Exception", .type "BaseException", .type "object"] (He.ga K "InvalidNumber") := xExc_ok eb_ValueError (Y.x 13)
  have sc : FnScope ["self", "given"] ["self", "given"] (defScope s_InvalidNumber_init) := ⟨rfl, rfl, rfl, by decide +kernel, rfl, by decide +kernel, by decide +kernel⟩
  refine xcls1 (tx := "the object is not a number in range") TC (Y.glo 25) (Y.x 14) F sc (fun cdv A outer s H E => ?_) fun _ _ _ _ _ _ us hl => match us, hl with | [_, _], _ => rfl
  exact pss_cons (ps_expr (pe_eini TC (xBaseO_ok (mg := mg) (bn := "WalkError") (ini := "ValueError.__init__") (Y.x 3) (Y.glo 14)) rfl (by decide) (pa_cons (pv 0) (pa_cons pe_str pa_nil)))) (pss_one (ps_est TC (xNo_ok (Y.x 15)) (pv 0) (pv 1)))
theorem okg_Symmetry_init {fd : FuncData} (Y : Cy w K mg) (F : FunD K d_Symmetry_init.name d_Symmetry_init.qual d_Symmetry_init.params d_Symmetry_init.body d_Symmetry_init.scope (d_Symmetry_init.dvs K) [] (d_Symmetry_init.at_ K) fd) : FnG P w K mg base 5 (He.ma K (He.ga K "Symmetry") "__init__") fd ["self", "net", "place", "turn", "mirrored"] (spOf K mg u_Symmetry_init) := by
  have sc : FnScope ["self", "net", "place", "turn", "mirrored"] ["self", "net", "place", "turn", "mirrored"] (defScope s_Symmetry_init) := ⟨rfl, rfl, rfl, by decide +kernel, rfl, by decide +kernel, by decide +kernel⟩
  rw [e_u_Symmetry_init]
  refine okD2 F sc rfl rfl fun cdv A outer s H E tk po co => ?_
  rw [e_b_Symmetry_init, e_b_Symmetry_init_6, e_b_Symmetry_init_5, e_b_Symmetry_init_4, e_b_Symmetry_init_3, e_b_Symmetry_init_2, e_b_Symmetry_init_1]
  exact (mss_cons (ms_expr (me_call ((ok_check_net Y).fn (by decide)) co rfl (Y.glo 16) (ma_cons (me_var 1 (pv 1)) ma_nil))) (mss_cons (ms_expr (me_call ((ok_check_place Y).fn (by decide)) co rfl (Y.glo 23) (ma_cons (me_var 2 (pv 2)) ma_nil))) (mss_cons (ms_if (PW.pt (mw_or (mt_not (mt_val (me_call ((ok_is_integer Y).fn (by decide)) co rfl (Y.glo 20) (ma_cons (me_var 3 (pv 3)) ma_nil)))) (mw_or1 (mt_not (mt_chain om_le om_lt me_int (me_var 3 (pv 3)) (me_call ((ok_heading_count Y).fn (by decide)) co rfl (Y.glo 24) (ma_cons (me_var 1 (pv 1)) ma_nil))))))) (mss_one (ms_raise (x_InvalidNumber Y).x rfl (co.mono (by decide)) rfl (ma_cons (me_var 3 (pv 3)) ma_nil))) mss_nil) (mss_cons (ms_if (mt_not (mt_val (me_isiB rfl (Y.free 9) PyProof.Rows.Boot.isinstance rfl (Y.free 18) PyProof.Rows.Boot.bool (me_var 4 (pv 4)) rfl rfl (owns Y) kB_bool (xIsB_ok (Y.x 8) (ownG Y))))) (mss_one (ms_raise (x_InvalidNumber Y).x rfl (co.mono (by decide)) rfl (ma_cons (me_var 4 (pv 4)) ma_nil))) mss_nil) (mss_cons (ms_setf (me_var 0 (pv 0)) (me_var 1 (pv 1)) (Y.glo 10) (xOwn_ok (Y.x 0)).cl (He.noat_ok (Y.fact 26))) (mss_cons (ms_setf (me_var 0 (pv 0)) (me_var 2 (pv 2)) (Y.glo 10) (xOwn_ok (Y.x 0)).cl (He.noat_ok (Y.fact 27))) (mss_cons (ms_setf (me_var 0 (pv 0)) (me_var 3 (pv 3)) (Y.glo 10) (xOwn_ok (Y.x 0)).cl (He.noat_ok (Y.fact 28))) (mss_one (ms_setf (me_var 0 (pv 0)) (me_var 4 (pv 4)) (Y.glo 10) (xOwn_ok (Y.x 0)).cl (He.noat_ok (Y.fact 29)))))))))))
theorem ok_Symmetry_init_4 (Y : Cy w K mg) : FdG P w K mg base 5 (He.ma K (He.ga K "Symmetry") "__init__") u_Symmetry_init [.bl false] := by
  obtain ⟨fd, F⟩ := Y.def_ 14 (d := d_Symmetry_init)
  exact fdg_of1 F (okg_Symmetry_init Y F) 4 0 (List.cons_ne_nil _ _) rfl (fun _ _ => (.cons (.bl _) .nil)) fun _ _ _ _ _ _ _ us its hu hi => match us, hu, its, hi with | [_, _, _, _], _, [_], _ => ⟨_, rfl, rfl⟩
theorem ok_Symmetry_init_5 (Y : Cy w K mg) : FdG P w K mg base 5 (He.ma K (He.ga K "Symmetry") "__init__") u_Symmetry_init [] := by
  obtain ⟨fd, F⟩ := Y.def_ 14 (d := d_Symmetry_init)
  exact fdg_of1 F (okg_Symmetry_init Y F) 5 1 (List.cons_ne_nil _ _) rfl (fun _ _ => .nil) fun _ _ _ _ _ _ _ us its hu hi => match us, hu, its, hi with | [_, _, _, _, _], _, [_], _ => ⟨_, rfl, rfl⟩
theorem ok__law_made (Y : Cy w K mg) : FdG P w K mg base 7 (He.ga K "_law_made") u__law_made [] := by
  obtain ⟨fd, F⟩ := Y.def_ 15 (d := d__law_made)
  have sc : FnScope ["_law_kind_here", "_law_parts_here"] ["_law_kind_here", "_law_parts_here"] (defScope s__law_made) := ⟨rfl, rfl, rfl, by decide +kernel, rfl, by decide +kernel, by decide +kernel⟩
  rw [e_u__law_made]
  refine fdg_of F (okD2 F sc rfl rfl fun cdv A outer s H E tk po co => ?_) fun _ _ _ _ _ _ us hl => match us, hl with | [_, _], _ => rfl
  rw [e_b__law_made]
  exact (mss_one (ms_ret (me_make (He.mkr_ok (Y.fact 30)) ((ok_Symmetry_init_5 Y).fn (by decide)) co rfl (Y.glo 10) (ma_cons (me_var 0 (pv 0)) (ma_cons (me_ix (im_seq rfl) (me_var 1 (pv 1)) me_int (fun _ _ => rfl)) (ma_cons (me_ix (im_seq rfl) (me_var 1 (pv 1)) me_int (fun _ _ => rfl)) (ma_cons (me_ix (im_seq rfl) (me_var 1 (pv 1)) me_int (fun _ _ => rfl)) ma_nil)))))))
theorem ok_Symmetry_net (Y : Cy w K mg) : FdG P w K mg base 2 (pA "Symmetry" "net" K) u_Symmetry_net [] := by
  obtain ⟨fd, F⟩ := Y.def_ 16 (d := d_Symmetry_net)
  have sc : FnScope ["self"] ["self"] (defScope s_Symmetry_net) := ⟨rfl, rfl, rfl, by decide +kernel, rfl, by decide +kernel, by decide +kernel⟩
  rw [e_u_Symmetry_net]
  refine fdg_of F (okD2 F sc rfl rfl fun cdv A outer s H E tk po co => ?_) fun _ _ _ _ _ _ us hl => match us, hl with | [_], _ => rfl
  rw [e_b_Symmetry_net]
  exact (mss_one (ms_ret (me_fld (me_var 0 (pv 0)) (Y.glo 10) (xOwn_ok (Y.x 0)).cl (He.noat_ok (Y.fact 26)))))
theorem ok_Symmetry_place (Y : Cy w K mg) : FdG P w K mg base 2 (pA "Symmetry" "place" K) u_Symmetry_place [] := by
  obtain ⟨fd, F⟩ := Y.def_ 17 (d := d_Symmetry_place)
  have sc : FnScope ["self"] ["self"] (defScope s_Symmetry_place) := ⟨rfl, rfl, rfl, by decide +kernel, rfl, by decide +kernel, by decide +kernel⟩
  rw [e_u_Symmetry_place]
  refine fdg_of F (okD2 F sc rfl rfl fun cdv A outer s H E tk po co => ?_) fun _ _ _ _ _ _ us hl => match us, hl with | [_], _ => rfl
  rw [e_b_Symmetry_place]
  exact (mss_one (ms_ret (me_fld (me_var 0 (pv 0)) (Y.glo 10) (xOwn_ok (Y.x 0)).cl (He.noat_ok (Y.fact 27)))))
theorem ok_Symmetry_turn (Y : Cy w K mg) : FdG P w K mg base 2 (pA "Symmetry" "turn" K) u_Symmetry_turn [] := by
  obtain ⟨fd, F⟩ := Y.def_ 18 (d := d_Symmetry_turn)
  have sc : FnScope ["self"] ["self"] (defScope s_Symmetry_turn) := ⟨rfl, rfl, rfl, by decide +kernel, rfl, by decide +kernel, by decide +kernel⟩
  rw [e_u_Symmetry_turn]
  refine fdg_of F (okD2 F sc rfl rfl fun cdv A outer s H E tk po co => ?_) fun _ _ _ _ _ _ us hl => match us, hl with | [_], _ => rfl
  rw [e_b_Symmetry_turn]
  exact (mss_one (ms_ret (me_fld (me_var 0 (pv 0)) (Y.glo 10) (xOwn_ok (Y.x 0)).cl (He.noat_ok (Y.fact 28)))))
theorem ok_Symmetry_mirrored (Y : Cy w K mg) : FdG P w K mg base 2 (pA "Symmetry" "mirrored" K) u_Symmetry_mirrored [] := by
  obtain ⟨fd, F⟩ := Y.def_ 19 (d := d_Symmetry_mirrored)
  have sc : FnScope ["self"] ["self"] (defScope s_Symmetry_mirrored) := ⟨rfl, rfl, rfl, by decide +kernel, rfl, by decide +kernel, by decide +kernel⟩
  rw [e_u_Symmetry_mirrored]
  refine fdg_of F (okD2 F sc rfl rfl fun cdv A outer s H E tk po co => ?_) fun _ _ _ _ _ _ us hl => match us, hl with | [_], _ => rfl
  rw [e_b_Symmetry_mirrored]
  exact (mss_one (ms_ret (me_fld (me_var 0 (pv 0)) (Y.glo 10) (xOwn_ok (Y.x 0)).cl (He.noat_ok (Y.fact 29)))))
theorem ok_Symmetry_bool (Y : Cy w K mg) : FdG P w K mg base 2 (He.ma K (He.ga K "Symmetry") "__bool__") u_Symmetry_bool [] := by
  obtain ⟨fd, F⟩ := Y.def_ 20 (d := d_Symmetry_bool)
  have sc : FnScope ["self"] ["self"] (defScope s_Symmetry_bool) := ⟨rfl, rfl, rfl, by decide +kernel, rfl, by decide +kernel, by decide +kernel⟩
  rw [e_u_Symmetry_bool]
  refine fdg_of F (okD2 F sc rfl rfl fun cdv A outer s H E tk po co => ?_) fun _ _ _ _ _ _ us hl => match us, hl with | [_], _ => rfl
  rw [e_b_Symmetry_bool]
  exact (mss_one (ms_ret (me_fnT (cm_bool) rfl (Y.free 18) PyProof.Rows.Boot.bool (ma_cons (me_orT rfl (me_fld (me_var 0 (pv 0)) (Y.glo 10) (xOwn_ok (Y.x 0)).cl (He.noat_ok (Y.fact 29))) (me_orT rfl (me_fld (me_var 0 (pv 0)) (Y.glo 10) (xOwn_ok (Y.x 0)).cl (He.noat_ok (Y.fact 28))) (me_orT rfl (me_ix (im_seq rfl) (me_fld (me_var 0 (pv 0)) (Y.glo 10) (xOwn_ok (Y.x 0)).cl (He.noat_ok (Y.fact 27))) me_int (fun _ _ => rfl)) (me_one (me_ix (im_seq rfl) (me_fld (me_var 0 (pv 0)) (Y.glo 10) (xOwn_ok (Y.x 0)).cl (He.noat_ok (Y.fact 27))) me_int (fun _ _ => rfl)))))) ma_nil))))
theorem ok_scaled (Y : Cy w K mg) : FdG P w K mg base 2 (He.ga K "scaled") u_scaled [] := by
  obtain ⟨fd, F⟩ := Y.def_ 21 (d := d_scaled)
  have sc : FnScope ["place", "factor"] ["place", "factor"] (defScope s_scaled) := ⟨rfl, rfl, rfl, by decide +kernel, rfl, by decide +kernel, by decide +kernel⟩
  rw [e_u_scaled]
  refine fdg_of F (okD2 F sc rfl rfl fun cdv A outer s H E tk po co => ?_) fun _ _ _ _ _ _ us hl => match us, hl with | [_, _], _ => rfl
  rw [e_b_scaled]
  exact (mss_one (ms_ret (me_tup (ma_cons (me_op (om_mul) (me_ix (im_seq rfl) (me_var 0 (pv 0)) me_int (fun _ _ => rfl)) (me_var 1 (pv 1))) (ma_cons (me_op (om_mul) (me_ix (im_seq rfl) (me_var 0 (pv 0)) me_int (fun _ _ => rfl)) (me_var 1 (pv 1))) ma_nil)))))
theorem ok_flipped (Y : Cy w K mg) : FdG P w K mg base 2 (He.ga K "flipped") u_flipped [] := by
  obtain ⟨fd, F⟩ := Y.def_ 22 (d := d_flipped)
  have sc : FnScope ["net", "place", "x", "y"] ["net", "place"] (defScope s_flipped) := ⟨rfl, rfl, rfl, by decide +kernel, rfl, by decide +kernel, by decide +kernel⟩
  rw [e_u_flipped]
  refine fdg_of F (okD2 F sc rfl rfl fun cdv A outer s H E tk po co => ?_) fun _ _ _ _ _ _ us hl => match us, hl with | [_, _], _ => rfl
  rw [e_b_flipped]
  exact (mss_cons (ms_asg (me_var 1 (pv 1)) (gm_tup2 (gms_cons (gm_name (pg_name sc.nd rfl (Or.inl rfl))) (gms_cons (gm_name (pg_name sc.nd rfl (Or.inl rfl))) gms_nil)))) (mss_one (ms_ret (me_ifx (mt_cmp (om_eq rfl co.u64) (me_var 0 (pv 0)) me_str (nomark _)) (me_tup (ma_cons (me_var 2 (pv 2)) (ma_cons (me_neg (me_var 3 (pv 3))) ma_nil))) (me_tup (ma_cons (me_op (om_add rfl) (me_var 2 (pv 2)) (me_var 3 (pv 3))) (ma_cons (me_neg (me_var 3 (pv 3))) ma_nil)))))))
theorem ok_turned (Y : Cy w K mg) : FdG P w K mg base 2 (He.ga K "turned") u_turned [] := by
  obtain ⟨fd, F⟩ := Y.def_ 23 (d := d_turned)
  have sc : FnScope ["net", "place", "turn", "x", "y", "count"] ["net", "place", "turn"] (defScope s_turned) := ⟨rfl, rfl, rfl, by decide +kernel, rfl, by decide +kernel, by decide +kernel⟩
  rw [e_u_turned]
  refine fdg_of F (okD2 F sc rfl rfl fun cdv A outer s H E tk po co => ?_) fun _ _ _ _ _ _ us hl => match us, hl with | [_, _, _], _ => rfl
  rw [e_b_turned, e_b_turned_2, e_b_turned_1]
  exact (mss_cons (ms_asg (me_var 1 (pv 1)) (gm_tup2 (gms_cons (gm_name (pg_name sc.nd rfl (Or.inl rfl))) (gms_cons (gm_name (pg_name sc.nd rfl (Or.inl rfl))) gms_nil)))) (mss_cons (ms_for po rfl (pi_mrange1 (fun ha => pi_range1 rfl (Y.free 3) ha) (ma_cons (me_var 2 (pv 2)) ma_nil)) (gm_name (pg_name sc.nd rfl (Or.inl rfl))) (mss_one (ms_asg (me_ifx (mt_cmp (om_eq rfl co.u64) (me_var 0 (pv 0)) me_str (nomark _)) (me_tup (ma_cons (me_neg (me_var 4 (pv 4))) (ma_cons (me_var 3 (pv 3)) ma_nil))) (me_tup (ma_cons (me_neg (me_var 4 (pv 4))) (ma_cons (me_op (om_add rfl) (me_var 3 (pv 3)) (me_var 4 (pv 4))) ma_nil)))) (gm_tup2 (gms_cons (gm_name (pg_name sc.nd rfl (Or.inl rfl))) (gms_cons (gm_name (pg_name sc.nd rfl (Or.inl rfl))) gms_nil)))))) (mss_one (ms_ret (me_tup (ma_cons (me_var 3 (pv 3)) (ma_cons (me_var 4 (pv 4)) ma_nil)))))))
theorem ok_linear (Y : Cy w K mg) : FdG P w K mg base 3 (He.ga K "linear") u_linear [] := by
  obtain ⟨fd, F⟩ := Y.def_ 24 (d := d_linear)
  have sc : FnScope ["net", "turn", "mirrored", "place"] ["net", "turn", "mirrored", "place"] (defScope s_linear) := ⟨rfl, rfl, rfl, by decide +kernel, rfl, by decide +kernel, by decide +kernel⟩
  rw [e_u_linear]
  refine fdg_of F (okD2 F sc rfl rfl fun cdv A outer s H E tk po co => ?_) fun _ _ _ _ _ _ us hl => match us, hl with | [_, _, _, _], _ => rfl
  rw [e_b_linear]
  exact (mss_one (ms_ret (me_call ((ok_turned Y).fn (by decide)) co rfl (Y.glo 33) (ma_cons (me_var 0 (pv 0)) (ma_cons (me_ifx (mt_tru rfl (me_var 2 (pv 2))) (me_call ((ok_flipped Y).fn (by decide)) co rfl (Y.glo 32) (ma_cons (me_var 0 (pv 0)) (ma_cons (me_var 3 (pv 3)) ma_nil))) (me_var 3 (pv 3))) (ma_cons (me_var 1 (pv 1)) ma_nil))))))
theorem ok_Symmetry_invert (Y : Cy w K mg) : FdG P w K mg base 7 (He.ma K (He.ga K "Symmetry") "__invert__") u_Symmetry_invert [] := by
  obtain ⟨fd, F⟩ := Y.def_ 25 (d := d_Symmetry_invert)
  have sc : FnScope ["self", "turn", "place"] ["self"] (defScope s_Symmetry_invert) := ⟨rfl, rfl, rfl, by decide +kernel, rfl, by decide +kernel, by decide +kernel⟩
  rw [e_u_Symmetry_invert]
  refine fdg_of F (okD2 F sc rfl rfl fun cdv A outer s H E tk po co => ?_) fun _ _ _ _ _ _ us hl => match us, hl with | [_], _ => rfl
  rw [e_b_Symmetry_invert, e_b_Symmetry_invert_1]
  exact (mss_cons (ms_set (i := 1) sc.nd rfl (Or.inl rfl) (me_ifx (mt_tru rfl (me_fld (me_var 0 (pv 0)) (Y.glo 10) (xOwn_ok (Y.x 0)).cl (He.noat_ok (Y.fact 29)))) (me_fld (me_var 0 (pv 0)) (Y.glo 10) (xOwn_ok (Y.x 0)).cl (He.noat_ok (Y.fact 28))) (me_op (om_mod) (me_neg (me_fld (me_var 0 (pv 0)) (Y.glo 10) (xOwn_ok (Y.x 0)).cl (He.noat_ok (Y.fact 28)))) (me_call ((ok_heading_count Y).fn (by decide)) co rfl (Y.glo 24) (ma_cons (me_fld (me_var 0 (pv 0)) (Y.glo 10) (xOwn_ok (Y.x 0)).cl (He.noat_ok (Y.fact 26))) ma_nil))))) (mss_cons (ms_set (i := 2) sc.nd rfl (Or.inl rfl) (me_call ((ok_linear Y).fn (by decide)) co rfl (Y.glo 35) (ma_cons (me_fld (me_var 0 (pv 0)) (Y.glo 10) (xOwn_ok (Y.x 0)).cl (He.noat_ok (Y.fact 26))) (ma_cons (me_var 1 (pv 1)) (ma_cons (me_fld (me_var 0 (pv 0)) (Y.glo 10) (xOwn_ok (Y.x 0)).cl (He.noat_ok (Y.fact 29))) (ma_cons (me_call ((ok_scaled Y).fn (by decide)) co rfl (Y.glo 34) (ma_cons (me_fld (me_var 0 (pv 0)) (Y.glo 10) (xOwn_ok (Y.x 0)).cl (He.noat_ok (Y.fact 27))) (ma_cons (me_neg me_int) ma_nil))) ma_nil)))))) (mss_one (ms_ret (me_make (He.mkr_ok (Y.fact 30)) ((ok_Symmetry_init_5 Y).fn (by decide)) co rfl (Y.glo 10) (ma_cons (me_fld (me_var 0 (pv 0)) (Y.glo 10) (xOwn_ok (Y.x 0)).cl (He.noat_ok (Y.fact 26))) (ma_cons (me_var 2 (pv 2)) (ma_cons (me_var 1 (pv 1)) (ma_cons (me_fld (me_var 0 (pv 0)) (Y.glo 10) (xOwn_ok (Y.x 0)).cl (He.noat_ok (Y.fact 29))) ma_nil)))))))))
theorem ok_added (Y : Cy w K mg) : FdG P w K mg base 2 (He.ga K "added") u_added [] := by
  obtain ⟨fd, F⟩ := Y.def_ 26 (d := d_added)
  have sc : FnScope ["one", "other"] ["one", "other"] (defScope s_added) := ⟨rfl, rfl, rfl, by decide +kernel, rfl, by decide +kernel, by decide +kernel⟩
  rw [e_u_added]
  refine fdg_of F (okD2 F sc rfl rfl fun cdv A outer s H E tk po co => ?_) fun _ _ _ _ _ _ us hl => match us, hl with | [_, _], _ => rfl
  rw [e_b_added]
  exact (mss_one (ms_ret (me_tup (ma_cons (me_op (om_add rfl) (me_ix (im_seq rfl) (me_var 0 (pv 0)) me_int (fun _ _ => rfl)) (me_ix (im_seq rfl) (me_var 1 (pv 1)) me_int (fun _ _ => rfl))) (ma_cons (me_op (om_add rfl) (me_ix (im_seq rfl) (me_var 0 (pv 0)) me_int (fun _ _ => rfl)) (me_ix (im_seq rfl) (me_var 1 (pv 1)) me_int (fun _ _ => rfl))) ma_nil)))))
theorem ok_Symmetry_moved (Y : Cy w K mg) : FdG P w K mg base 4 (He.ma K (He.ga K "Symmetry") "moved") u_Symmetry_moved [] := by
  obtain ⟨fd, F⟩ := Y.def_ 27 (d := d_Symmetry_moved)
  have sc : FnScope ["self", "place"] ["self", "place"] (defScope s_Symmetry_moved) := ⟨rfl, rfl, rfl, by decide +kernel, rfl, by decide +kernel, by decide +kernel⟩
  rw [e_u_Symmetry_moved]
  refine fdg_of F (okD2 F sc rfl rfl fun cdv A outer s H E tk po co => ?_) fun _ _ _ _ _ _ us hl => match us, hl with | [_, _], _ => rfl
  rw [e_b_Symmetry_moved]
  exact (mss_one (ms_ret (me_call ((ok_added Y).fn (by decide)) co rfl (Y.glo 36) (ma_cons (me_fld (me_var 0 (pv 0)) (Y.glo 10) (xOwn_ok (Y.x 0)).cl (He.noat_ok (Y.fact 27))) (ma_cons (me_call ((ok_linear Y).fn (by decide)) co rfl (Y.glo 35) (ma_cons (me_fld (me_var 0 (pv 0)) (Y.glo 10) (xOwn_ok (Y.x 0)).cl (He.noat_ok (Y.fact 26))) (ma_cons (me_fld (me_var 0 (pv 0)) (Y.glo 10) (xOwn_ok (Y.x 0)).cl (He.noat_ok (Y.fact 28))) (ma_cons (me_fld (me_var 0 (pv 0)) (Y.glo 10) (xOwn_ok (Y.x 0)).cl (He.noat_ok (Y.fact 29))) (ma_cons (me_var 1 (pv 1)) ma_nil))))) ma_nil)))))
theorem ok_Symmetry_call (Y : Cy w K mg) : FdG P w K mg base 5 (He.ma K (He.ga K "Symmetry") "__call__") u_Symmetry_call [] := by
  obtain ⟨fd, F⟩ := Y.def_ 28 (d := d_Symmetry_call)
  have sc : FnScope ["self", "place"] ["self", "place"] (defScope s_Symmetry_call) := ⟨rfl, rfl, rfl, by decide +kernel, rfl, by decide +kernel, by decide +kernel⟩
  rw [e_u_Symmetry_call]
  refine fdg_of F (okD2 F sc rfl rfl fun cdv A outer s H E tk po co => ?_) fun _ _ _ _ _ _ us hl => match us, hl with | [_, _], _ => rfl
  rw [e_b_Symmetry_call]
  exact (mss_cons (ms_expr (me_call ((ok_check_place Y).fn (by decide)) co rfl (Y.glo 23) (ma_cons (me_var 1 (pv 1)) ma_nil))) (mss_one (ms_ret (me_meth (me_var 0 (pv 0)) (Y.glo 10) (xOwn_ok (Y.x 0)).cl (He.meth_ok (Y.fact 37)) ((ok_Symmetry_moved Y).fn (by decide)) co (ma_cons (me_var 1 (pv 1)) ma_nil)))))
theorem ok__law_flip (Y : Cy w K mg) : FdG P w K mg base 2 (He.ga K "_law_flip") u__law_flip [] := by
  obtain ⟨fd, F⟩ := Y.def_ 29 (d := d__law_flip)
  have sc : FnScope ["_law_kind_here", "_law_spot"] ["_law_kind_here", "_law_spot"] (defScope s__law_flip) := ⟨rfl, rfl, rfl, by decide +kernel, rfl, by decide +kernel, by decide +kernel⟩
  rw [e_u__law_flip]
  refine fdg_of F (okD2 F sc rfl rfl fun cdv A outer s H E tk po co => ?_) fun _ _ _ _ _ _ us hl => match us, hl with | [_, _], _ => rfl
  rw [e_b__law_flip]
  exact (mss_one (ms_ret (me_ifx (mt_cmp (om_eq rfl co.u64) (me_var 0 (pv 0)) me_str (nomark _)) (me_tup (ma_cons (me_ix (im_seq rfl) (me_var 1 (pv 1)) me_int (fun _ _ => rfl)) (ma_cons (me_op (om_sub) me_int (me_ix (im_seq rfl) (me_var 1 (pv 1)) me_int (fun _ _ => rfl))) ma_nil))) (me_tup (ma_cons (me_op (om_add rfl) (me_ix (im_seq rfl) (me_var 1 (pv 1)) me_int (fun _ _ => rfl)) (me_ix (im_seq rfl) (me_var 1 (pv 1)) me_int (fun _ _ => rfl))) (ma_cons (me_op (om_sub) me_int (me_ix (im_seq rfl) (me_var 1 (pv 1)) me_int (fun _ _ => rfl))) ma_nil))))))
theorem ok__law_rotated (Y : Cy w K mg) : FdG P w K mg base 3 (He.ga K "_law_rotated") u__law_rotated [] := by
  obtain ⟨fd, F⟩ := Y.def_ 30 (d := d__law_rotated)
  have sc : FnScope ["_law_kind_here", "_law_spot", "_law_times", "_law_x", "_law_y", "_law_attempt"] ["_law_kind_here", "_law_spot", "_law_times"] (defScope s__law_rotated) := ⟨rfl, rfl, rfl, by decide +kernel, rfl, by decide +kernel, by decide +kernel⟩
  rw [e_u__law_rotated]
  refine fdg_of F (okD2 F sc rfl rfl fun cdv A outer s H E tk po co => ?_) fun _ _ _ _ _ _ us hl => match us, hl with | [_, _, _], _ => rfl
  rw [e_b__law_rotated, e_b__law_rotated_2, e_b__law_rotated_1]
  exact (mss_cons (ms_asg (me_var 1 (pv 1)) (gm_tup2 (gms_cons (gm_name (pg_name sc.nd rfl (Or.inl rfl))) (gms_cons (gm_name (pg_name sc.nd rfl (Or.inl rfl))) gms_nil)))) (mss_cons (ms_for po rfl (pi_mrange1 (fun ha => pi_range1 rfl (Y.free 3) ha) (ma_cons (me_op (om_mod) (me_var 2 (pv 2)) (me_fnB (cm_len rfl) rfl (Y.free 0) PyProof.Rows.Boot.len (ma_cons (me_call ((ok__law_steps Y).fn (by decide)) co rfl (Y.glo 7) (ma_cons (me_var 0 (pv 0)) ma_nil)) ma_nil))) ma_nil)) (gm_name (pg_name sc.nd rfl (Or.inl rfl))) (mss_one (ms_par (ps_par (i := 3) (j := 4) rfl sc.nd rfl rfl (by decide) rfl rfl (pa_cons (me_op (om_sub) me_int (me_var 4 (pv 4))) (pa_cons (me_op (om_add rfl) (me_var 3 (pv 3)) (me_op (om_mul) (me_var 4 (pv 4)) (me_fnT (cm_int) rfl (Y.free 17) PyProof.Rows.Boot.int (ma_cons (me_cmp (om_eq rfl co.u64) (me_var 0 (pv 0)) me_str (nomark _)) ma_nil)))) pa_nil)) (by rfl))))) (mss_one (ms_ret (me_tup (ma_cons (me_var 3 (pv 3)) (ma_cons (me_var 4 (pv 4)) ma_nil)))))))
theorem ok__law_taken (Y : Cy w K mg) : FdG P w K mg base 4 (He.ga K "_law_taken") u__law_taken [] := by
  obtain ⟨fd, F⟩ := Y.def_ 31 (d := d__law_taken)
  have sc : FnScope ["_law_kind_here", "_law_parts_here", "_law_spot", "_law_shift", "_law_times", "_law_is_flipped", "_law_x", "_law_y"] ["_law_kind_here", "_law_parts_here", "_law_spot"] (defScope s__law_taken) := ⟨rfl, rfl, rfl, by decide +kernel, rfl, by decide +kernel, by decide +kernel⟩
  rw [e_u__law_taken]
  refine fdg_of F (okD2 F sc rfl rfl fun cdv A outer s H E tk po co => ?_) fun _ _ _ _ _ _ us hl => match us, hl with | [_, _, _], _ => rfl
  rw [e_b__law_taken, e_b__law_taken_1]
  exact (mss_cons (ms_asg (me_var 1 (pv 1)) (gm_unl (gms_cons (gm_name (pg_name sc.nd rfl (Or.inl rfl))) (gms_cons (gm_name (pg_name sc.nd rfl (Or.inl rfl))) (gms_cons (gm_name (pg_name sc.nd rfl (Or.inl rfl))) gms_nil))))) (mss_cons (ms_asg (me_call ((ok__law_rotated Y).fn (by decide)) co rfl (Y.glo 39) (ma_cons (me_var 0 (pv 0)) (ma_cons (me_ifx (mt_tru rfl (me_var 5 (pv 5))) (me_call ((ok__law_flip Y).fn (by decide)) co rfl (Y.glo 38) (ma_cons (me_var 0 (pv 0)) (ma_cons (me_var 2 (pv 2)) ma_nil))) (me_var 2 (pv 2))) (ma_cons (me_var 4 (pv 4)) ma_nil)))) (gm_tup2 (gms_cons (gm_name (pg_name sc.nd rfl (Or.inl rfl))) (gms_cons (gm_name (pg_name sc.nd rfl (Or.inl rfl))) gms_nil)))) (mss_one (ms_ret (me_tup (ma_cons (me_op (om_add rfl) (me_var 6 (pv 6)) (me_ix (im_seq rfl) (me_var 3 (pv 3)) me_int (fun _ _ => rfl))) (ma_cons (me_op (om_add rfl) (me_var 7 (pv 7)) (me_ix (im_seq rfl) (me_var 3 (pv 3)) me_int (fun _ _ => rfl))) ma_nil)))))))
theorem ok__law_next (Y : Cy w K mg) : FdG P w K mg base 3 (He.ga K "_law_next") u__law_next [] := by
  obtain ⟨fd, F⟩ := Y.def_ 32 (d := d__law_next)
  have sc : FnScope ["_law_kind_here", "_law_spot", "_law_at", "_law_way"] ["_law_kind_here", "_law_spot", "_law_at"] (defScope s__law_next) := ⟨rfl, rfl, rfl, by decide +kernel, rfl, by decide +kernel, by decide +kernel⟩
  rw [e_u__law_next]
  refine fdg_of F (okD2 F sc rfl rfl fun cdv A outer s H E tk po co => ?_) fun _ _ _ _ _ _ us hl => match us, hl with | [_, _, _], _ => rfl
  rw [e_b__law_next]
  exact (mss_cons (ms_set (i := 3) sc.nd rfl (Or.inl rfl) (me_ix (im_seq rfl) (me_call ((ok__law_steps Y).fn (by decide)) co rfl (Y.glo 7) (ma_cons (me_var 0 (pv 0)) ma_nil)) (me_op (om_mod) (me_var 2 (pv 2)) (me_fnB (cm_len rfl) rfl (Y.free 0) PyProof.Rows.Boot.len (ma_cons (me_call ((ok__law_steps Y).fn (by decide)) co rfl (Y.glo 7) (ma_cons (me_var 0 (pv 0)) ma_nil)) ma_nil))) (fun _ _ => rfl))) (mss_one (ms_ret (me_tup (ma_cons (me_op (om_add rfl) (me_ix (im_seq rfl) (me_var 1 (pv 1)) me_int (fun _ _ => rfl)) (me_ix (im_seq rfl) (me_var 3 (pv 3)) me_int (fun _ _ => rfl))) (ma_cons (me_op (om_add rfl) (me_ix (im_seq rfl) (me_var 1 (pv 1)) me_int (fun _ _ => rfl)) (me_ix (im_seq rfl) (me_var 3 (pv 3)) me_int (fun _ _ => rfl))) ma_nil))))))
theorem x_InvalidOperand (Y : Cy w K mg) : XClsG P w K mg base "InvalidOperand" (He.ga K "InvalidOperand") ["given"] := by
  obtain ⟨fd, F⟩ := Y.def_ 33 (d := d_InvalidOperand_init)
  have TC : ExC K "ValueError" "ValueError.__new__" "ValueError.__init__" [.type "ValueError", .type "Exception", .type "BaseException", .type "object"] (He.ga K "InvalidOperand") := xExc_ok eb_ValueError (Y.x 24)
  have sc : FnScope ["self", "given"] ["self", "given"] (defScope s_InvalidOperand_init) := ⟨rfl, rfl, rfl, by decide +kernel, rfl, by decide +kernel, by decide +kernel⟩
  refine xcls1 (tx := "the object is not an operand of this kind") TC (Y.glo 42) (Y.x 25) F sc (fun cdv A outer s H E => ?_) fun _ _ _ _ _ _ us hl => match us, hl with | [_, _], _ => rfl
  exact pss_cons (ps_expr (pe_eini TC (xBaseO_ok (mg := mg) (bn := "WalkError") (ini := "ValueError.__init__") (Y.x 3) (Y.glo 14)) rfl (by decide) (pa_cons (pv 0) (pa_cons pe_str pa_nil)))) (pss_one (ps_est TC (xNo_ok (Y.x 26)) (pv 0) (pv 1)))
theorem x_NetMismatch (Y : Cy w K mg) : XClsG P w K mg base "NetMismatch" (He.ga K "NetMismatch") ["first", "second"] := by
  obtain ⟨fd, F⟩ := Y.def_ 34 (d := d_NetMismatch_init)
  have TC : ExC K "ValueError" "ValueError.__new__" "ValueError.__init__" [.type "ValueError", .type "Exception", .type "BaseException", .type "object"] (He.ga K "NetMismatch") := xExc_ok eb_ValueError (Y.x 27)
  have sc : FnScope ["self", "first", "second"] ["self", "first", "second"] (defScope s_NetMismatch_init) := ⟨rfl, rfl, rfl, by decide +kernel, rfl, by decide +kernel, by decide +kernel⟩
  refine xcls2 (tx := "different nets") TC (Y.glo 43) (Y.x 28) F sc (fun cdv A outer s H E => ?_) fun _ _ _ _ _ _ us hl => match us, hl with | [_, _, _], _ => rfl
  exact pss_cons (ps_expr (pe_eini TC (xBaseO_ok (mg := mg) (bn := "WalkError") (ini := "ValueError.__init__") (Y.x 3) (Y.glo 14)) rfl (by decide) (pa_cons (pv 0) (pa_cons pe_str pa_nil)))) (pss_cons (ps_est TC (xNo_ok (Y.x 29)) (pv 0) (pv 1)) (pss_one (ps_est TC (xNo_ok (Y.x 30)) (pv 0) (pv 2))))
theorem ok_Symmetry_mul (Y : Cy w K mg) : FdG P w K mg base 7 (He.ma K (He.ga K "Symmetry") "__mul__") u_Symmetry_mul [] := by
  obtain ⟨fd, F⟩ := Y.def_ 35 (d := d_Symmetry_mul)
  have sc : FnScope ["self", "other", "turn", "mirrored"] ["self", "other"] (defScope s_Symmetry_mul) := ⟨rfl, rfl, rfl, by decide +kernel, rfl, by decide +kernel, by decide +kernel⟩
  rw [e_u_Symmetry_mul]
  refine fdg_of F (okD2 F sc rfl rfl fun cdv A outer s H E tk po co => ?_) fun _ _ _ _ _ _ us hl => match us, hl with | [_, _], _ => rfl
  rw [e_b_Symmetry_mul, e_b_Symmetry_mul_4, e_b_Symmetry_mul_3, e_b_Symmetry_mul_2, e_b_Symmetry_mul_1]
  exact (mss_cons (ms_if (mt_not (mt_val (me_isiO rfl (Y.free 9) PyProof.Rows.Boot.isinstance rfl (Y.glo 10) (me_var 1 (pv 1)) rfl rfl (owns Y) (xIsO_ok (Y.x 23) (ownG Y)).1 (xIsO_ok (Y.x 23) (ownG Y)).2))) (mss_one (ms_raise (x_InvalidOperand Y).x rfl (co.mono (by decide)) rfl (ma_cons (me_var 1 (pv 1)) ma_nil))) mss_nil) (mss_cons (ms_if (mt_cmp (om_ne rfl co.u64) (me_fld (me_var 0 (pv 0)) (Y.glo 10) (xOwn_ok (Y.x 0)).cl (He.noat_ok (Y.fact 26))) (me_fld (me_var 1 (pv 1)) (Y.glo 10) (xOwn_ok (Y.x 0)).cl (He.noat_ok (Y.fact 26))) (nomark _)) (mss_one (ms_raise (x_NetMismatch Y).x rfl (co.mono (by decide)) rfl (ma_cons (me_fld (me_var 0 (pv 0)) (Y.glo 10) (xOwn_ok (Y.x 0)).cl (He.noat_ok (Y.fact 26))) (ma_cons (me_fld (me_var 1 (pv 1)) (Y.glo 10) (xOwn_ok (Y.x 0)).cl (He.noat_ok (Y.fact 26))) ma_nil)))) mss_nil) (mss_cons (ms_set (i := 2) sc.nd rfl (Or.inl rfl) (me_op (om_add rfl) (me_fld (me_var 1 (pv 1)) (Y.glo 10) (xOwn_ok (Y.x 0)).cl (He.noat_ok (Y.fact 28))) (me_ifx (mt_tru rfl (me_fld (me_var 1 (pv 1)) (Y.glo 10) (xOwn_ok (Y.x 0)).cl (He.noat_ok (Y.fact 29)))) (me_neg (me_fld (me_var 0 (pv 0)) (Y.glo 10) (xOwn_ok (Y.x 0)).cl (He.noat_ok (Y.fact 28)))) (me_fld (me_var 0 (pv 0)) (Y.glo 10) (xOwn_ok (Y.x 0)).cl (He.noat_ok (Y.fact 28)))))) (mss_cons (ms_set (i := 3) sc.nd rfl (Or.inl rfl) (me_cmp (om_ne rfl co.u64) (me_fld (me_var 0 (pv 0)) (Y.glo 10) (xOwn_ok (Y.x 0)).cl (He.noat_ok (Y.fact 29))) (me_fld (me_var 1 (pv 1)) (Y.glo 10) (xOwn_ok (Y.x 0)).cl (He.noat_ok (Y.fact 29))) (nomark _))) (mss_one (ms_ret (me_make (He.mkr_ok (Y.fact 30)) ((ok_Symmetry_init_5 Y).fn (by decide)) co rfl (Y.glo 10) (ma_cons (me_fld (me_var 0 (pv 0)) (Y.glo 10) (xOwn_ok (Y.x 0)).cl (He.noat_ok (Y.fact 26))) (ma_cons (me_meth (me_var 1 (pv 1)) (Y.glo 10) (xOwn_ok (Y.x 0)).cl (He.meth_ok (Y.fact 37)) ((ok_Symmetry_moved Y).fn (by decide)) co (ma_cons (me_fld (me_var 0 (pv 0)) (Y.glo 10) (xOwn_ok (Y.x 0)).cl (He.noat_ok (Y.fact 27))) ma_nil)) (ma_cons (me_op (om_mod) (me_var 2 (pv 2)) (me_call ((ok_heading_count Y).fn (by decide)) co rfl (Y.glo 24) (ma_cons (me_fld (me_var 0 (pv 0)) (Y.glo 10) (xOwn_ok (Y.x 0)).cl (He.noat_ok (Y.fact 26))) ma_nil))) (ma_cons (me_var 3 (pv 3)) ma_nil)))))))))))
theorem ok_Symmetry_eq (Y : Cy w K mg) : FdG P w K mg base 2 (He.ma K (He.ga K "Symmetry") "__eq__") u_Symmetry_eq [] := by
  obtain ⟨fd, F⟩ := Y.def_ 36 (d := d_Symmetry_eq)
  have sc : FnScope ["self", "other"] ["self", "other"] (defScope s_Symmetry_eq) := ⟨rfl, rfl, rfl, by decide +kernel, rfl, by decide +kernel, by decide +kernel⟩
  rw [e_u_Symmetry_eq]
  refine fdg_of F (okD2 F sc rfl rfl fun cdv A outer s H E tk po co => ?_) fun _ _ _ _ _ _ us hl => match us, hl with | [_, _], _ => rfl
  rw [e_b_Symmetry_eq, e_b_Symmetry_eq_1]
  exact (mss_cons (ms_if (PW.pt (mw_or (mt_not (mt_val (me_isiO rfl (Y.free 9) PyProof.Rows.Boot.isinstance rfl (Y.glo 10) (me_var 1 (pv 1)) rfl rfl (owns Y) (xIsO_ok (Y.x 23) (ownG Y)).1 (xIsO_ok (Y.x 23) (ownG Y)).2))) (mw_or1 (mt_cmp (om_ne rfl co.u64) (me_fld (me_var 0 (pv 0)) (Y.glo 10) (xOwn_ok (Y.x 0)).cl (He.noat_ok (Y.fact 26))) (me_fld (me_var 1 (pv 1)) (Y.glo 10) (xOwn_ok (Y.x 0)).cl (He.noat_ok (Y.fact 26))) (nomark _))))) (mss_one (ms_ret me_bl)) mss_nil) (mss_cons (ms_if (PW.pt (mw_or (mt_cmp (om_ne rfl co.u64) (me_fld (me_var 0 (pv 0)) (Y.glo 10) (xOwn_ok (Y.x 0)).cl (He.noat_ok (Y.fact 28))) (me_fld (me_var 1 (pv 1)) (Y.glo 10) (xOwn_ok (Y.x 0)).cl (He.noat_ok (Y.fact 28))) (nomark _)) (mw_or1 (mt_cmp (om_ne rfl co.u64) (me_fld (me_var 0 (pv 0)) (Y.glo 10) (xOwn_ok (Y.x 0)).cl (He.noat_ok (Y.fact 29))) (me_fld (me_var 1 (pv 1)) (Y.glo 10) (xOwn_ok (Y.x 0)).cl (He.noat_ok (Y.fact 29))) (nomark _))))) (mss_one (ms_ret me_bl)) mss_nil) (mss_one (ms_ret (me_cmp (om_eq rfl co.u64) (me_fld (me_var 0 (pv 0)) (Y.glo 10) (xOwn_ok (Y.x 0)).cl (He.noat_ok (Y.fact 27))) (me_fld (me_var 1 (pv 1)) (Y.glo 10) (xOwn_ok (Y.x 0)).cl (He.noat_ok (Y.fact 27))) (nomark _))))))
theorem ok__law_one_right (Y : Cy w K mg) : FdG P w K mg base 8 (He.ga K "_law_one_right") u__law_one_right [] := by
  obtain ⟨fd, F⟩ := Y.def_ 37 (d := d__law_one_right)
  have sc : FnScope ["_law_kind_here", "_law_parts_here", "_law_spots", "_law_found", "_law_back", "_law_at", "_law_one", "_law_other", "_law_nothing", "_law_way"] ["_law_kind_here", "_law_parts_here", "_law_spots"] (defScope s__law_one_right) := ⟨rfl, rfl, rfl, by decide +kernel, rfl, by decide +kernel, by decide +kernel⟩
  rw [e_u__law_one_right]
  refine fdg_of F (okD2 F sc rfl rfl fun cdv A outer s H E tk po co => ?_) fun _ _ _ _ _ _ us hl => match us, hl with | [_, _, _], _ => rfl
  rw [e_b__law_one_right, e_b__law_one_right_8, e_b__law_one_right_7, e_b__law_one_right_6, e_b__law_one_right_5, e_b__law_one_right_4, e_b__law_one_right_3, e_b__law_one_right_2, e_b__law_one_right_1]
  exact (mss_cons (ms_set (i := 3) sc.nd rfl (Or.inl rfl) (me_call ((ok__law_made Y).fn (by decide)) co rfl (Y.glo 31) (ma_cons (me_var 0 (pv 0)) (ma_cons (me_var 1 (pv 1)) ma_nil)))) (mss_cons (ms_if (mt_cmp (om_ne rfl co.u64) (me_lst (ma_cons (me_prop (me_var 3 (pv 3)) (Y.glo 10) (xOwn_ok (Y.x 0)).cl (xProp_ok (Y.x 19)) ((ok_Symmetry_net Y).fn (by decide)) co) (ma_cons (me_prop (me_var 3 (pv 3)) (Y.glo 10) (xOwn_ok (Y.x 0)).cl (xProp_ok (Y.x 18)) ((ok_Symmetry_place Y).fn (by decide)) co) (ma_cons (me_prop (me_var 3 (pv 3)) (Y.glo 10) (xOwn_ok (Y.x 0)).cl (xProp_ok (Y.x 17)) ((ok_Symmetry_turn Y).fn (by decide)) co) (ma_cons (me_prop (me_var 3 (pv 3)) (Y.glo 10) (xOwn_ok (Y.x 0)).cl (xProp_ok (Y.x 16)) ((ok_Symmetry_mirrored Y).fn (by decide)) co) ma_nil))))) (me_op (om_add rfl) (me_lst (ma_cons (me_var 0 (pv 0)) ma_nil)) (me_var 1 (pv 1))) (nomark _)) (mss_one (ms_ret me_bl)) mss_nil) (mss_cons (ms_if (mt_cmp (om_ne rfl co.u64) (me_fnT (cm_boolO (xOp_ok (Y.x 20) (Y.glo 10) ((ok_Symmetry_bool Y).fn (by decide))) co) rfl (Y.free 18) PyProof.Rows.Boot.bool (ma_cons (me_var 3 (pv 3)) ma_nil)) (me_cmp (om_ne rfl co.u64) (me_var 1 (pv 1)) (me_lst (ma_cons (me_tup (ma_cons me_int (ma_cons me_int ma_nil))) (ma_cons me_int (ma_cons me_bl ma_nil)))) (nomark _)) (nomark _)) (mss_one (ms_ret me_bl)) mss_nil) (mss_cons (ms_set (i := 4) sc.nd rfl (Or.inl rfl) (me_inv (xOp_ok (Y.x 21) (Y.glo 10) ((ok_Symmetry_invert Y).fn (by decide))) co (me_var 3 (pv 3)))) (mss_cons (ms_for po rfl (pi_mrange1 (fun ha => pi_range1 rfl (Y.free 3) ha) (ma_cons (me_fnB (cm_len rfl) rfl (Y.free 0) PyProof.Rows.Boot.len (ma_cons (me_var 2 (pv 2)) ma_nil)) ma_nil)) (gm_name (pg_name sc.nd rfl (Or.inl rfl))) (mss_cons (ms_if (PW.pt (mw_or (mt_cmp (om_ne rfl co.u64) (me_callO (xOp_ok (Y.x 22) (Y.glo 10) ((ok_Symmetry_call Y).fn (by decide))) co (me_var 3 (pv 3)) (ma_cons (me_ix (im_seq rfl) (me_var 2 (pv 2)) (me_var 5 (pv 5)) (fun _ _ => rfl)) ma_nil)) (me_call ((ok__law_taken Y).fn (by decide)) co rfl (Y.glo 40) (ma_cons (me_var 0 (pv 0)) (ma_cons (me_var 1 (pv 1)) (ma_cons (me_ix (im_seq rfl) (me_var 2 (pv 2)) (me_var 5 (pv 5)) (fun _ _ => rfl)) ma_nil)))) (nomark _)) (mw_or1 (mt_cmp (om_ne rfl co.u64) (me_callO (xOp_ok (Y.x 22) (Y.glo 10) ((ok_Symmetry_call Y).fn (by decide))) co (me_var 4 (pv 4)) (ma_cons (me_callO (xOp_ok (Y.x 22) (Y.glo 10) ((ok_Symmetry_call Y).fn (by decide))) co (me_var 3 (pv 3)) (ma_cons (me_ix (im_seq rfl) (me_var 2 (pv 2)) (me_var 5 (pv 5)) (fun _ _ => rfl)) ma_nil)) ma_nil)) (me_ix (im_seq rfl) (me_var 2 (pv 2)) (me_var 5 (pv 5)) (fun _ _ => rfl)) (nomark _))))) (mss_one (ms_ret me_bl)) mss_nil) (mss_cons (ms_asg (me_tup (ma_cons (me_callO (xOp_ok (Y.x 22) (Y.glo 10) ((ok_Symmetry_call Y).fn (by decide))) co (me_var 3 (pv 3)) (ma_cons (me_ix (im_seq rfl) (me_var 2 (pv 2)) (me_var 5 (pv 5)) (fun _ _ => rfl)) ma_nil)) (ma_cons (me_callO (xOp_ok (Y.x 22) (Y.glo 10) ((ok_Symmetry_call Y).fn (by decide))) co (me_var 3 (pv 3)) (ma_cons (me_call ((ok__law_next Y).fn (by decide)) co rfl (Y.glo 41) (ma_cons (me_var 0 (pv 0)) (ma_cons (me_ix (im_seq rfl) (me_var 2 (pv 2)) (me_var 5 (pv 5)) (fun _ _ => rfl)) (ma_cons (me_var 5 (pv 5)) ma_nil)))) ma_nil)) ma_nil))) (gm_tup2 (gms_cons (gm_name (pg_name sc.nd rfl (Or.inr rfl))) (gms_cons (gm_name (pg_name sc.nd rfl (Or.inr rfl))) gms_nil)))) (mss_one (ms_if (mt_cmp (om_eq rfl co.u64) (me_lc (own := [("_law_way", 9)]) rfl sc.nd (pi_mrange1 (fun ha => pi_range1 rfl (Y.free 3) ha) (ma_cons (me_fnB (cm_len rfl) rfl (Y.free 0) PyProof.Rows.Boot.len (ma_cons (me_call ((ok__law_steps Y).fn (by decide)) co rfl (Y.glo 7) (ma_cons (me_var 0 (pv 0)) ma_nil)) ma_nil)) ma_nil)) (blkOk_by (N := ["_law_kind_here", "_law_parts_here", "_law_spots", "_law_found", "_law_back", "_law_at", "_law_one", "_law_other", "_law_nothing", "_law_way"]) (sc := defScope s__law_one_right) (by decide +kernel)) (only_name (by decide)) le_name (fun _ _ _ _ _ => (pg_name (i := 9) sc.nd rfl (by first | exact Or.inl rfl | exact Or.inr rfl))) (fun _ _ _ _ _ => (mts_one (mt_cmp (om_eq rfl (co.blk _ _ _ _ _).u64) (me_call ((ok__law_next Y).fn (by decide)) (co.blk _ _ _ _ _) rfl (Y.glo 41) (ma_cons (me_var 0 (pv 0)) (ma_cons (me_var 6 (pv 6)) (ma_cons (me_var 9 (pv 9)) ma_nil)))) (me_var 7 (pv 7)) (nomark _)))) (fun _ _ _ _ _ => (me_var 9 (pv 9)))) (me_lst ma_nil) (nomark _)) (mss_one (ms_ret me_bl)) mss_nil))))) (mss_cons (ms_set (i := 8) sc.nd rfl (Or.inl rfl) (me_make (He.mkr_ok (Y.fact 30)) ((ok_Symmetry_init_4 Y).fn (by decide)) co rfl (Y.glo 10) (ma_cons (me_var 0 (pv 0)) (ma_cons (me_tup (ma_cons me_int (ma_cons me_int ma_nil))) (ma_cons me_int ma_nil))))) (mss_one (ms_ret (me_and (me_eqO (xOp_ok (Y.x 31) (Y.glo 10) ((ok_Symmetry_eq Y).fn (by decide))) (owns Y) (xEqF_ok (Y.x 32) (ownG Y)) co (me_binO (xOp_ok (Y.x 34) (Y.glo 10) ((ok_Symmetry_mul Y).fn (by decide))) (xBin_ok (Y.x 33)) (xOwn_ok (Y.x 0)) co (me_var 3 (pv 3)) (me_inv (xOp_ok (Y.x 21) (Y.glo 10) ((ok_Symmetry_invert Y).fn (by decide))) co (me_var 3 (pv 3)))) (me_var 8 (pv 8))) (me_and (me_eqO (xOp_ok (Y.x 31) (Y.glo 10) ((ok_Symmetry_eq Y).fn (by decide))) (owns Y) (xEqF_ok (Y.x 32) (ownG Y)) co (me_binO (xOp_ok (Y.x 34) (Y.glo 10) ((ok_Symmetry_mul Y).fn (by decide))) (xBin_ok (Y.x 33)) (xOwn_ok (Y.x 0)) co (me_inv (xOp_ok (Y.x 21) (Y.glo 10) ((ok_Symmetry_invert Y).fn (by decide))) co (me_var 3 (pv 3))) (me_var 3 (pv 3))) (me_var 8 (pv 8))) (me_and (me_eqO (xOp_ok (Y.x 31) (Y.glo 10) ((ok_Symmetry_eq Y).fn (by decide))) (owns Y) (xEqF_ok (Y.x 32) (ownG Y)) co (me_binO (xOp_ok (Y.x 34) (Y.glo 10) ((ok_Symmetry_mul Y).fn (by decide))) (xBin_ok (Y.x 33)) (xOwn_ok (Y.x 0)) co (me_var 3 (pv 3)) (me_var 8 (pv 8))) (me_var 3 (pv 3))) (me_one (me_notO (xOp_ok (Y.x 20) (Y.glo 10) ((ok_Symmetry_bool Y).fn (by decide))) co (me_var 8 (pv 8)))))))))))))))
theorem ok__law_pair_right (Y : Cy w K mg) : FdG P w K mg base 8 (He.ga K "_law_pair_right") u__law_pair_right [] := by
  obtain ⟨fd, F⟩ := Y.def_ 38 (d := d__law_pair_right)
  have sc : FnScope ["_law_kind_here", "_law_rows", "_law_spots", "_law_one", "_law_two", "_law_three", "_law_both", "_law_spot", "_law_parts_here"] ["_law_kind_here", "_law_rows", "_law_spots"] (defScope s__law_pair_right) := ⟨rfl, rfl, rfl, by decide +kernel, rfl, by decide +kernel, by decide +kernel⟩
  rw [e_u__law_pair_right]
  refine fdg_of F (okD2 F sc rfl rfl fun cdv A outer s H E tk po co => ?_) fun _ _ _ _ _ _ us hl => match us, hl with | [_, _, _], _ => rfl
  rw [e_b__law_pair_right, e_b__law_pair_right_4, e_b__law_pair_right_3, e_b__law_pair_right_2, e_b__law_pair_right_1]
  exact (mss_cons (ms_asg (me_lc (own := [("_law_parts_here", 8)]) rfl sc.nd (pi_mlst rfl (me_var 1 (pv 1))) (blkOk_by (N := ["_law_kind_here", "_law_rows", "_law_spots", "_law_one", "_law_two", "_law_three", "_law_both", "_law_spot", "_law_parts_here"]) (sc := defScope s__law_pair_right) (by decide +kernel)) (only_name (by decide)) le_name (fun _ _ _ _ _ => (pg_name (i := 8) sc.nd rfl (by first | exact Or.inl rfl | exact Or.inr rfl))) (fun _ _ _ _ _ => mts_nil) (fun _ _ _ _ _ => (me_call ((ok__law_made Y).fn (by decide)) (co.blk _ _ _ _ _) rfl (Y.glo 31) (ma_cons (me_var 0 (pv 0)) (ma_cons (me_var 8 (pv 8)) ma_nil))))) (gm_unl (gms_cons (gm_name (pg_name sc.nd rfl (Or.inl rfl))) (gms_cons (gm_name (pg_name sc.nd rfl (Or.inl rfl))) (gms_cons (gm_name (pg_name sc.nd rfl (Or.inl rfl))) gms_nil))))) (mss_cons (ms_if (PW.pt (mw_or (mt_neO (xOp_ok (Y.x 31) (Y.glo 10) ((ok_Symmetry_eq Y).fn (by decide))) (owns Y) (xEqF_ok (Y.x 32) (ownG Y)) (xNeF_ok (Y.x 35)) co (me_binO (xOp_ok (Y.x 34) (Y.glo 10) ((ok_Symmetry_mul Y).fn (by decide))) (xBin_ok (Y.x 33)) (xOwn_ok (Y.x 0)) co (me_binO (xOp_ok (Y.x 34) (Y.glo 10) ((ok_Symmetry_mul Y).fn (by decide))) (xBin_ok (Y.x 33)) (xOwn_ok (Y.x 0)) co (me_var 3 (pv 3)) (me_var 4 (pv 4))) (me_var 5 (pv 5))) (me_binO (xOp_ok (Y.x 34) (Y.glo 10) ((ok_Symmetry_mul Y).fn (by decide))) (xBin_ok (Y.x 33)) (xOwn_ok (Y.x 0)) co (me_var 3 (pv 3)) (me_binO (xOp_ok (Y.x 34) (Y.glo 10) ((ok_Symmetry_mul Y).fn (by decide))) (xBin_ok (Y.x 33)) (xOwn_ok (Y.x 0)) co (me_var 4 (pv 4)) (me_var 5 (pv 5))))) (mw_or1 (mt_neO (xOp_ok (Y.x 31) (Y.glo 10) ((ok_Symmetry_eq Y).fn (by decide))) (owns Y) (xEqF_ok (Y.x 32) (ownG Y)) (xNeF_ok (Y.x 35)) co (me_inv (xOp_ok (Y.x 21) (Y.glo 10) ((ok_Symmetry_invert Y).fn (by decide))) co (me_binO (xOp_ok (Y.x 34) (Y.glo 10) ((ok_Symmetry_mul Y).fn (by decide))) (xBin_ok (Y.x 33)) (xOwn_ok (Y.x 0)) co (me_var 3 (pv 3)) (me_var 4 (pv 4)))) (me_binO (xOp_ok (Y.x 34) (Y.glo 10) ((ok_Symmetry_mul Y).fn (by decide))) (xBin_ok (Y.x 33)) (xOwn_ok (Y.x 0)) co (me_inv (xOp_ok (Y.x 21) (Y.glo 10) ((ok_Symmetry_invert Y).fn (by decide))) co (me_var 4 (pv 4))) (me_inv (xOp_ok (Y.x 21) (Y.glo 10) ((ok_Symmetry_invert Y).fn (by decide))) co (me_var 3 (pv 3)))))))) (mss_one (ms_ret me_bl)) mss_nil) (mss_cons (ms_set (i := 6) sc.nd rfl (Or.inl rfl) (me_binO (xOp_ok (Y.x 34) (Y.glo 10) ((ok_Symmetry_mul Y).fn (by decide))) (xBin_ok (Y.x 33)) (xOwn_ok (Y.x 0)) co (me_var 3 (pv 3)) (me_var 4 (pv 4)))) (mss_cons (ms_for po rfl (pi_mlst rfl (me_var 2 (pv 2))) (gm_name (pg_name sc.nd rfl (Or.inl rfl))) (mss_one (ms_if (mt_cmp (om_ne rfl co.u64) (me_callO (xOp_ok (Y.x 22) (Y.glo 10) ((ok_Symmetry_call Y).fn (by decide))) co (me_var 6 (pv 6)) (ma_cons (me_var 7 (pv 7)) ma_nil)) (me_callO (xOp_ok (Y.x 22) (Y.glo 10) ((ok_Symmetry_call Y).fn (by decide))) co (me_var 4 (pv 4)) (ma_cons (me_callO (xOp_ok (Y.x 22) (Y.glo 10) ((ok_Symmetry_call Y).fn (by decide))) co (me_var 3 (pv 3)) (ma_cons (me_var 7 (pv 7)) ma_nil)) ma_nil)) (nomark _)) (mss_one (ms_ret me_bl)) mss_nil))) (mss_one (ms_ret (me_and (me_cmp (om_eq rfl co.u64) (me_eqO (xOp_ok (Y.x 31) (Y.glo 10) ((ok_Symmetry_eq Y).fn (by decide))) (owns Y) (xEqF_ok (Y.x 32) (ownG Y)) co (me_var 3 (pv 3)) (me_var 4 (pv 4))) (me_cmp (om_eq rfl co.u64) (me_ix (im_seq rfl) (me_var 1 (pv 1)) me_int (fun _ _ => rfl)) (me_ix (im_seq rfl) (me_var 1 (pv 1)) me_int (fun _ _ => rfl)) (nomark _)) (nomark _)) (me_one (me_cmp (om_eq rfl co.u64) (me_neO (xOp_ok (Y.x 31) (Y.glo 10) ((ok_Symmetry_eq Y).fn (by decide))) (owns Y) (xEqF_ok (Y.x 32) (ownG Y)) (xNeF_ok (Y.x 35)) co (me_var 3 (pv 3)) (me_var 4 (pv 4))) (me_cmp (om_ne rfl co.u64) (me_ix (im_seq rfl) (me_var 1 (pv 1)) me_int (fun _ _ => rfl)) (me_ix (im_seq rfl) (me_var 1 (pv 1)) me_int (fun _ _ => rfl)) (nomark _)) (nomark _))))))))))
theorem ok_law_fn {fd : FuncData} (Y : Cy w K mg) (F : FunD K d_law.name d_law.qual d_law.params d_law.body d_law.scope (d_law.dvs K) [] (d_law.at_ K) fd) : FnG P w K mg base 9 (He.ga K "law") fd ["_law_script"] (spOf K mg u_law) := by
  have sc : FnScope ["_law_script", "_law_k", "_law_source_here", "_law_kind_here", "_law_wide", "_law_rows", "_law_spots", "_law_parts_here", "_law_other", "_law_attempt"] ["_law_script"] (defScope s_law) := ⟨rfl, rfl, rfl, by decide +kernel, rfl, by decide +kernel, by decide +kernel⟩
  rw [e_u_law]
  refine okD2 F sc rfl rfl fun cdv A outer s H E tk po co => ?_
  rw [e_b_law, e_b_law_11, e_b_law_10, e_b_law_9, e_b_law_8, e_b_law_7, e_b_law_6, e_b_law_5, e_b_law_4, e_b_law_3, e_b_law_2, e_b_law_1]
  exact (mss_cons (ms_for po rfl (pi_mrange1 (fun ha => pi_range1 rfl (Y.free 3) ha) (ma_cons (me_fnB (cm_max2 rfl) rfl (Y.free 2) PyProof.Rows.Boot.max (ma_cons me_int (ma_cons (me_fnB (cm_min2 rfl) rfl (Y.free 1) PyProof.Rows.Boot.min (ma_cons (me_fnB (cm_len rfl) rfl (Y.free 0) PyProof.Rows.Boot.len (ma_cons (me_var 0 (pv 0)) ma_nil)) (ma_cons me_int ma_nil))) ma_nil))) ma_nil)) (gm_name (pg_name sc.nd rfl (Or.inl rfl))) (mss_cons (ms_set (i := 2) sc.nd rfl (Or.inr rfl) (me_call ((ok__law_source Y).fn (by decide)) co rfl (Y.glo 4) (ma_cons (me_var 0 (pv 0)) (ma_cons (me_var 1 (pv 1)) ma_nil)))) (mss_one (ms_for po rfl (pi_mlst rfl (me_lst (ma_cons me_str (ma_cons me_str ma_nil)))) (gm_name (pg_name sc.nd rfl (Or.inr rfl))) (mss_cons (ms_set (i := 4) sc.nd rfl (Or.inr rfl) (me_ix (im_seq rfl) (me_lst (ma_cons me_int (ma_cons me_int (ma_cons (me_call ((ok__law_big Y).fn (by decide)) co rfl (Y.glo 6) (ma_cons (me_var 2 (pv 2)) ma_nil)) ma_nil)))) (me_call ((ok__law_draw Y).fn (by decide)) co rfl (Y.glo 5) (ma_cons (me_var 2 (pv 2)) (ma_cons me_int ma_nil))) (fun _ _ => rfl))) (mss_cons (ms_setLc (i := 5) (own := [("_law_attempt", 9)]) rfl sc.nd rfl rfl (sw_true rfl rfl rfl (by decide +kernel)) (pi_mrange1 (fun ha => pi_range1 rfl (Y.free 3) ha) (ma_cons me_int ma_nil)) (blkOk_by (N := ["_law_script", "_law_k", "_law_source_here", "_law_kind_here", "_law_wide", "_law_rows", "_law_spots", "_law_parts_here", "_law_other", "_law_attempt"]) (sc := defScope s_law) (by decide +kernel)) (only_name (by decide)) le_name (fun _ _ _ _ _ => (pg_name (i := 9) sc.nd rfl (by first | exact Or.inl rfl | exact Or.inr rfl))) (fun _ _ _ _ _ => mts_nil) (fun _ _ _ _ _ => (me_call ((ok__law_parts Y).fn (by decide)) (co.blk _ _ _ _ _) rfl (Y.glo 8) (ma_cons (me_var 2 (pv 2)) (ma_cons (me_var 3 (pv 3)) (ma_cons (me_var 4 (pv 4)) ma_nil)))))) (mss_cons (ms_if (mt_cmp (om_eq rfl co.u64) (me_call ((ok__law_draw Y).fn (by decide)) co rfl (Y.glo 5) (ma_cons (me_var 2 (pv 2)) (ma_cons me_int ma_nil))) me_int (nomark _)) (mss_one (ms_asg (me_ix (im_seq rfl) (me_var 5 (pv 5)) me_int (fun _ _ => rfl)) (gm_sub (me_var 5 (pv 5)) me_int))) mss_nil) (mss_cons (ms_set (i := 6) sc.nd rfl (Or.inl rfl) (me_op (om_add rfl) (me_lc (own := [("_law_attempt", 9)]) rfl sc.nd (pi_mrange1 (fun ha => pi_range1 rfl (Y.free 3) ha) (ma_cons me_int ma_nil)) (blkOk_by (N := ["_law_script", "_law_k", "_law_source_here", "_law_kind_here", "_law_wide", "_law_rows", "_law_spots", "_law_parts_here", "_law_other", "_law_attempt"]) (sc := defScope s_law) (by decide +kernel)) (only_name (by decide)) le_name (fun _ _ _ _ _ => (pg_name (i := 9) sc.nd rfl (by first | exact Or.inl rfl | exact Or.inr rfl))) (fun _ _ _ _ _ => mts_nil) (fun _ _ _ _ _ => (me_tup (ma_cons (me_op (om_sub) (me_call ((ok__law_draw Y).fn (by decide)) (co.blk _ _ _ _ _) rfl (Y.glo 5) (ma_cons (me_var 2 (pv 2)) (ma_cons me_int ma_nil))) me_int) (ma_cons (me_op (om_sub) (me_call ((ok__law_draw Y).fn (by decide)) (co.blk _ _ _ _ _) rfl (Y.glo 5) (ma_cons (me_var 2 (pv 2)) (ma_cons me_int ma_nil))) me_int) ma_nil))))) (me_lst (ma_cons (me_tup (ma_cons me_int (ma_cons me_int ma_nil))) ma_nil)))) (mss_cons (ms_for po rfl (pi_mlst rfl (me_var 5 (pv 5))) (gm_name (pg_name sc.nd rfl (Or.inl rfl))) (mss_one (ms_if (mt_not (mt_val (me_call ((ok__law_one_right Y).fn (by decide)) co rfl (Y.glo 44) (ma_cons (me_var 3 (pv 3)) (ma_cons (me_var 7 (pv 7)) (ma_cons (me_var 6 (pv 6)) ma_nil)))))) (mss_one (ms_ret me_bl)) mss_nil))) (mss_cons (ms_if (mt_not (mt_val (me_call ((ok__law_pair_right Y).fn (by decide)) co rfl (Y.glo 45) (ma_cons (me_var 3 (pv 3)) (ma_cons (me_var 5 (pv 5)) (ma_cons (me_var 6 (pv 6)) ma_nil)))))) (mss_one (ms_ret me_bl)) mss_nil) (mss_cons (ms_set (i := 8) sc.nd rfl (Or.inl rfl) (me_ix (im_seq rfl) (me_lst (ma_cons me_str (ma_cons me_str ma_nil))) (me_fnT (cm_int) rfl (Y.free 17) PyProof.Rows.Boot.int (ma_cons (me_cmp (om_eq rfl co.u64) (me_var 3 (pv 3)) me_str (nomark _)) ma_nil)) (fun _ _ => rfl))) (mss_one (ms_if (PW.pt (mw_or (mt_eqO (xOp_ok (Y.x 31) (Y.glo 10) ((ok_Symmetry_eq Y).fn (by decide))) (owns Y) (xEqF_ok (Y.x 32) (ownG Y)) co (me_make (He.mkr_ok (Y.fact 30)) ((ok_Symmetry_init_4 Y).fn (by decide)) co rfl (Y.glo 10) (ma_cons (me_var 3 (pv 3)) (ma_cons (me_tup (ma_cons me_int (ma_cons me_int ma_nil))) (ma_cons me_int ma_nil)))) (me_make (He.mkr_ok (Y.fact 30)) ((ok_Symmetry_init_4 Y).fn (by decide)) co rfl (Y.glo 10) (ma_cons (me_var 8 (pv 8)) (ma_cons (me_tup (ma_cons me_int (ma_cons me_int ma_nil))) (ma_cons me_int ma_nil))))) (mw_or1 (mt_eqO (xOp_ok (Y.x 31) (Y.glo 10) ((ok_Symmetry_eq Y).fn (by decide))) (owns Y) (xEqF_ok (Y.x 32) (ownG Y)) co (me_make (He.mkr_ok (Y.fact 30)) ((ok_Symmetry_init_4 Y).fn (by decide)) co rfl (Y.glo 10) (ma_cons (me_var 3 (pv 3)) (ma_cons (me_tup (ma_cons me_int (ma_cons me_int ma_nil))) (ma_cons me_int ma_nil)))) (me_tup (ma_cons me_int (ma_cons me_int ma_nil))))))) (mss_one (ms_ret me_bl)) mss_nil))))))))))))) (mss_one (ms_ret (me_and (me_notO (xOp_ok (Y.x 20) (Y.glo 10) ((ok_Symmetry_bool Y).fn (by decide))) co (me_make (He.mkr_ok (Y.fact 30)) ((ok_Symmetry_init_4 Y).fn (by decide)) co rfl (Y.glo 10) (ma_cons me_str (ma_cons (me_tup (ma_cons me_int (ma_cons me_int ma_nil))) (ma_cons me_int ma_nil))))) (me_one (me_fnT (cm_boolO (xOp_ok (Y.x 20) (Y.glo 10) ((ok_Symmetry_bool Y).fn (by decide))) co) rfl (Y.free 18) PyProof.Rows.Boot.bool (ma_cons (me_make (He.mkr_ok (Y.fact 30)) ((ok_Symmetry_init_5 Y).fn (by decide)) co rfl (Y.glo 10) (ma_cons me_str (ma_cons (me_tup (ma_cons me_int (ma_cons me_int ma_nil))) (ma_cons me_int (ma_cons me_bl ma_nil))))) ma_nil)))))))
end
end Lw
namespace Lw
open PySem PySem.Spec PyProof.Rows L2
def l0 : List Str := ["_wall", "WalkError", "InvalidNet", "InvalidPlace", "InvalidNumber", "InvalidOperand", "NetMismatch", "STEPS", "is_integer", "is_place", "is_net", "check_net", "check_place", "heading_count", "added", "scaled", "turned", "flipped", "linear", "Symmetry", "_law_source", "_law_draw", "_law_steps", "_law_rotated", "_law_kind", "_law_big", "_law_flip", "_law_taken", "_law_parts", "_law_made"]
def l1 : List Str := ["_law_next", "_law_one_right", "_law_pair_right"]
def loose : List Str := l0 ++ l1
abbrev R : PySem.W.OpenRow := PySem.W.OpenLaw.row PySem.Challenge.rw_loopwalks_k44_whole_symmetries_form_a_gr
abbrev hk : PySem.W.Hook := hookL 6 fa fn ts xs
def ob (s : PySem.W.SharedT) : AlL := obsLG 6 fa fn ts xs (HandSHeadRun.getT s)
theorem ob_eq (s : PySem.W.SharedT) : ob s = hk.obs s.abs := obsLG_eq (HandSHeadRun.getT_eq s)
theorem run_f (w : World) : HandSHeadRun.RunEq R (PySem.W.view R.prog [37]) hk ob 9000 loose (w.withFollow "special-get-raises" false) := by
  intro os
  kernel_rfl
theorem run_t (w : World) : HandSHeadRun.RunEq R (PySem.W.view R.prog [37]) hk ob 9000 loose (w.withFollow "special-get-raises" true) := by
  intro os
  kernel_rfl
theorem run_all (w : World) : HandSHeadRun.RunEq R (PySem.W.view R.prog [37]) hk ob 9000 loose w := PySem.W.byRow2 "special-get-raises" (P := fun w => HandSHeadRun.RunEq R (PySem.W.view R.prog [37]) hk ob 9000 loose w) run_f run_t w
end Lw

open PySem PySem.W PySem.Calls PyProof.Rows Lw
theorem PySem.Challenge.cw_loopwalks_k44_whole_symmetries_form_a_gr_holds : PySem.Challenge.rw_loopwalks_k44_whole_symmetries_form_a_gr.Holds := by
  w_on; o_law
  refine HandSHeadRun.head_any (r := OpenLaw.row PySem.Challenge.rw_loopwalks_k44_whole_symmetries_form_a_gr) (q := view (OpenLaw.row PySem.Challenge.rw_loopwalks_k44_whole_symmetries_form_a_gr).prog [37]) (H := hk) (ob := ob) (M := 9000) (loose := loose) (d := HandSHeadRun.topDef (OpenLaw.row PySem.Challenge.rw_loopwalks_k44_whole_symmetries_form_a_gr).prog 37) (kwd := []) ob_eq
    (by kernel_rfl) (fun s => by kernel_rfl) run_all (by kernel_rfl) (by kernel_rfl) (by kernel_rfl) (by rfl) (by first | assumption | decide +kernel) (by decide +kernel) ⟨rfl, rfl, rfl, rfl, rfl, by decide +kernel⟩ ?hw ?hc
  case hw => w_witness2
  case hc =>
    refine walk_ofG (l := PySem.Challenge.rw_loopwalks_k44_whole_symmetries_form_a_gr) (n := 63) (k := 9) (x := "_law_script") rfl (by decide) (by kernel_rfl) ⟨rfl, by decide, by decide⟩ fun w mg f h Z G hmg0 => ?_
    obtain ⟨K, KX, c, kk⟩ := Z
    have Y : Cy w K mg := ⟨⟨h, KX, G⟩, c⟩
    have hmg : mg ("law" : PySem.Str) = some (.ref f) := by
      have e : (HandSHeadRun.topDef (OpenLaw.row PySem.Challenge.rw_loopwalks_k44_whole_symmetries_form_a_gr).prog 37).name = ("law" : PySem.Str) := by kernel_rfl
      rw [← e]
      exact hmg0
    have e := hmg.symm.trans (Y.glo 46)
    cases e
    obtain ⟨fd, F⟩ := Y.def_ 39 (d := d_law)
    have b := L2.FunD.bindsA (ps := ["_law_script"]) F fun _ _ _ _ _ _ us hl => match us, hl with | [_], _ => rfl
    refine ⟨K, fd, u_law, KX, kk, fun s v => b s [v] rfl, law_pure, fun base => ?_⟩
    exact ok_law_fn (P := (PySem.Challenge.rw_loopwalks_k44_whole_symmetries_form_a_gr).prog) Y F

