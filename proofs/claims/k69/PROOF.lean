import PyProof.Rows.All
import Wide.All
import OpenK.AllK
import Wide.FinOn
import KE.KStateDown
import HandS.ForMost
import HandS.WordsExc
import HandS.Defaults
import HandS.Walk
import HandS.CallSlots
import HandS.Zip
import HandS.Text
import HandS.Style
import HandS.Deep
import KE.GoesEnum
import KE.GoesMore
import HandS.Iter
import HandS.TryOnly
import HandS.Small
import HandS.HeadEnd
import HandS.Codes
import HandS.HeadHook3
import PyProof.ReprLen
import PySem.Challenge.RW_alsoandnot_k69_machine_counts_by_length
import Lean
import HandS.Head0
import HandS.Head1
import HandS.Head2
import HandS.HeadHook1
import HandS.HeadHook2
set_option Elab.async false
set_option linter.all false
set_option maxRecDepth 100000
set_option maxHeartbeats 4000000
/-! DV1: plain data D, what stands for it in an abstract heap, cells of a frame, the state's invariant. -/
namespace DV
open PySem PySem.Spec PyProof.Rows L2

inductive D where
  | non | bl (b : Bool) | int (i : Int) | str (s : Str) | scr (ns : List Int) | wt (xs : List D)
  | tup (xs : List D) | lst (xs : List D) | dk (kvs : List (Key × D)) | dt (kvs : List (List Key × D))
  | obj (c : Nat) (fs : List (Str × D))

section
variable (K : PySem.W.Frag) (ca : Nat → Addr) (F : Hp)
mutual
/-- the value v is the datum d, all of whose objects stand in F (or in the written part) -/
inductive Rp : V → D → Prop
  | non : Rp .non .non
  | bl (b : Bool) : Rp (.bl b) (.bl b)
  | int (i : Int) : Rp (.int i) (.int i)
  | str (s : Str) : Rp (.str s) (.str s)
  | scr {a : Addr} {ns : List Int} : SqL K F a (ns.map V.int) → Rp (.ref a) (.scr ns)
  | wt {a : Addr} {vs : List V} {ds : List D} : SqT K F a vs → Rps vs ds → Rp (.ref a) (.wt ds)
  | tup {a : Addr} {vs : List V} {ds : List D} : F a = some (.tup vs) → Rps vs ds → Rp (.ref a) (.tup ds)
  | lst {a : Addr} {vs : List V} {ds : List D} : F a = some (.lst vs) → Rps vs ds → Rp (.ref a) (.lst ds)
  | dk {a : Addr} {kvs : List (Key × V)} {ds : List (Key × D)} : F a = some (.dK kvs) → kvs.map Prod.fst = ds.map Prod.fst → Rps (kvs.map Prod.snd) (ds.map Prod.snd) → Rp (.ref a) (.dk ds)
  | dt {a : Addr} {kvs : List (List Key × V)} {ds : List (List Key × D)} : F a = some (.dT kvs) → kvs.map Prod.fst = ds.map Prod.fst → Rps (kvs.map Prod.snd) (ds.map Prod.snd) → Rp (.ref a) (.dt ds)
  | obj {a dx : Addr} {c : Nat} {fs : List (Str × V)} {ds : List (Str × D)} : F a = some (.ins (ca c) dx fs) → fs.map Prod.fst = ds.map Prod.fst → Rps (fs.map Prod.snd) (ds.map Prod.snd) → Rp (.ref a) (.obj c ds)
inductive Rps : List V → List D → Prop
  | nil : Rps [] []
  | cons {v : V} {d : D} {vs : List V} {ds : List D} : Rp v d → Rps vs ds → Rps (v :: vs) (d :: ds)
end
/-- an object's content, its parts standing in F -/
inductive Ob : HO → D → Prop
  | lst {vs : List V} {ds : List D} : Rps K ca F vs ds → Ob (.lst vs) (.lst ds)
  | dk {kvs : List (Key × V)} {ds : List (Key × D)} : kvs.map Prod.fst = ds.map Prod.fst → Rps K ca F (kvs.map Prod.snd) (ds.map Prod.snd) → Ob (.dK kvs) (.dk ds)
  | dt {kvs : List (List Key × V)} {ds : List (List Key × D)} : kvs.map Prod.fst = ds.map Prod.fst → Rps K ca F (kvs.map Prod.snd) (ds.map Prod.snd) → Ob (.dT kvs) (.dt ds)
  | obj {dx : Addr} {c : Nat} {fs : List (Str × V)} {ds : List (Str × D)} : fs.map Prod.fst = ds.map Prod.fst → Rps K ca F (fs.map Prod.snd) (ds.map Prod.snd) → Ob (.ins (ca c) dx fs) (.obj c ds)
/-- what may be read in H as d -/
def Rr (H : Hp) (v : V) (d : D) : Prop := Rp K ca F v d ∨ ∃ a o, v = .ref a ∧ H a = some o ∧ Ob K ca F o d
end

section
variable {K : PySem.W.Frag} {ca : Nat → Addr} {F F' H H' : Hp}
theorem seqT {a : Addr} {xs : List V} (e : Same H H') (h : SqT K H a xs) : SqT K H' a xs := by
  rcases h with (h | ⟨o, h⟩) | h
  · exact .inl (.inl (e _ _ h))
  · exact .inl (.inr ⟨o, e _ _ h⟩)
  · exact .inr h
mutual
theorem Rp.mono (e : Same F F') : ∀ {v : V} {d : D}, Rp K ca F v d → Rp K ca F' v d
  | _, _, .non => .non
  | _, _, .bl b => .bl b
  | _, _, .int b => .int b
  | _, _, .str b => .str b
  | _, _, .scr h => .scr (e.seq h)
  | _, _, .wt h r => .wt (seqT e h) (Rps.mono e r)
  | _, _, .tup h r => .tup (e _ _ h) (Rps.mono e r)
  | _, _, .lst h r => .lst (e _ _ h) (Rps.mono e r)
  | _, _, .dk h k r => .dk (e _ _ h) k (Rps.mono e r)
  | _, _, .dt h k r => .dt (e _ _ h) k (Rps.mono e r)
  | _, _, .obj h k r => .obj (e _ _ h) k (Rps.mono e r)
theorem Rps.mono (e : Same F F') : ∀ {vs : List V} {ds : List D}, Rps K ca F vs ds → Rps K ca F' vs ds
  | _, _, .nil => .nil
  | _, _, .cons h r => .cons (Rp.mono e h) (Rps.mono e r)
end
theorem Ob.mono (e : Same F F') {o : HO} {d : D} (h : Ob K ca F o d) : Ob K ca F' o d := by
  cases h with
  | lst r => exact .lst (r.mono e)
  | dk k r => exact .dk k (r.mono e)
  | dt k r => exact .dt k (r.mono e)
  | obj k r => exact .obj k (r.mono e)
theorem Ob.rp {a : Addr} {o : HO} {d : D} (h : Ob K ca F o d) (e : F a = some o) : Rp K ca F (.ref a) d := by
  cases h with
  | lst r => exact .lst e r
  | dk k r => exact .dk e k r
  | dt k r => exact .dt e k r
  | obj k r => exact .obj e k r
theorem Rps.length : ∀ {vs : List V} {ds : List D}, Rps K ca F vs ds → vs.length = ds.length
  | _, _, .nil => rfl
  | _, _, .cons _ r => by rw [List.length_cons, List.length_cons, Rps.length r]
theorem Rps.get : ∀ {vs : List V} {ds : List D} {i : Nat} {d : D}, Rps K ca F vs ds → ds[i]? = some d → ∃ v, vs[i]? = some v ∧ Rp K ca F v d
  | _, _, i, d, .nil, e => by simp at e
  | _, _, 0, d, .cons h _, e => by simp at e; subst e; exact ⟨_, rfl, h⟩
  | _, _, i + 1, d, .cons _ r, e => by
    obtain ⟨v, h1, h2⟩ := Rps.get (i := i) (d := d) r (by simpa using e)
    exact ⟨v, by simpa using h1, h2⟩
theorem Rps.getV : ∀ {vs : List V} {ds : List D} {i : Nat} {v : V}, Rps K ca F vs ds → vs[i]? = some v → ∃ d, ds[i]? = some d ∧ Rp K ca F v d
  | _, _, i, v, .nil, e => by simp at e
  | _, _, 0, v, .cons h _, e => by simp at e; subst e; exact ⟨_, rfl, h⟩
  | _, _, i + 1, v, .cons _ r, e => by
    obtain ⟨d, h1, h2⟩ := Rps.getV (i := i) (v := v) r (by simpa using e)
    exact ⟨d, by simpa using h1, h2⟩
theorem Rps.append : ∀ {vs ws : List V} {ds es : List D}, Rps K ca F vs ds → Rps K ca F ws es → Rps K ca F (vs ++ ws) (ds ++ es)
  | _, _, _, _, .nil, s => s
  | _, _, _, _, .cons h r, s => .cons h (Rps.append r s)
theorem Rps.one {v : V} {d : D} (h : Rp K ca F v d) : Rps K ca F [v] [d] := .cons h .nil
theorem Rps.take : ∀ {vs : List V} {ds : List D} (n : Nat), Rps K ca F vs ds → Rps K ca F (vs.take n) (ds.take n)
  | _, _, 0, _ => .nil
  | _, _, _ + 1, .nil => .nil
  | _, _, n + 1, .cons h r => .cons h (Rps.take n r)
theorem Rps.drop : ∀ {vs : List V} {ds : List D} (n : Nat), Rps K ca F vs ds → Rps K ca F (vs.drop n) (ds.drop n)
  | _, _, 0, r => r
  | _, _, _ + 1, .nil => .nil
  | _, _, n + 1, .cons _ r => Rps.drop n r
theorem Rps.set {v : V} {d : D} (h : Rp K ca F v d) : ∀ {vs : List V} {ds : List D} (i : Nat), Rps K ca F vs ds → Rps K ca F (vs.set i v) (ds.set i d)
  | _, _, _, .nil => .nil
  | _, _, 0, .cons _ r => .cons h r
  | _, _, i + 1, .cons q r => .cons q (Rps.set h i r)
theorem Rps.reverse : ∀ {vs : List V} {ds : List D}, Rps K ca F vs ds → Rps K ca F vs.reverse ds.reverse
  | _, _, .nil => .nil
  | _, _, .cons h r => by
    rw [List.reverse_cons, List.reverse_cons]
    exact (Rps.reverse r).append (.one h)
theorem Rps.ints : ∀ {vs : List V} {ns : List Int}, Rps K ca F vs (ns.map D.int) → vs = ns.map V.int
  | _, [], .nil => rfl
  | _, n :: ns, .cons h r => by
    cases h
    rw [List.map_cons, Rps.ints r]
theorem Rps.ofInts : ∀ ns : List Int, Rps K ca F (ns.map V.int) (ns.map D.int)
  | [] => .nil
  | n :: ns => .cons (.int n) (Rps.ofInts ns)
theorem Rps.ofVals : ∀ {vs : List V} {ds : List D}, vs.length = ds.length → (∀ (i : Nat) (v : V) (d : D), vs[i]? = some v → ds[i]? = some d → Rp K ca F v d) → Rps K ca F vs ds
  | [], [], _, _ => .nil
  | [], _ :: _, h, _ => by cases h
  | _ :: _, [], h, _ => by cases h
  | v :: vs, d :: ds, h, q => .cons (q 0 v d rfl rfl) (Rps.ofVals (by simpa using h) fun i v d e1 e2 => q (i + 1) v d (by simpa using e1) (by simpa using e2))
theorem Rps.repl {v : V} {d : D} (h : Rp K ca F v d) : ∀ n, Rps K ca F (List.replicate n v) (List.replicate n d)
  | 0 => .nil
  | n + 1 => .cons h (Rps.repl h n)
theorem Rps.flatRep {vs : List V} {ds : List D} (h : Rps K ca F vs ds) : ∀ n, Rps K ca F (List.replicate n vs).flatten (List.replicate n ds).flatten
  | 0 => .nil
  | n + 1 => by
    rw [List.replicate_succ, List.replicate_succ, List.flatten_cons, List.flatten_cons]
    exact h.append (Rps.flatRep h n)
theorem Rps.dropLast {vs : List V} {ds : List D} (h : Rps K ca F vs ds) : Rps K ca F vs.dropLast ds.dropLast := by
  rw [List.dropLast_eq_take, List.dropLast_eq_take, h.length]
  exact h.take _

/-! ### a heap grown by new objects -/
structure Ext (F H F' H' : Hp) : Prop where
  ff : Same F F'
  hh : Same H H'
  fh : Same F' H'
  nw : ∀ a o, F' a = some o → F a = some o ∨ H a = none
theorem Ext.refl (e : Same F H) : Ext F H F H := ⟨Same.refl _, Same.refl _, e, fun _ _ h => .inl h⟩
theorem same_upd {p : Addr} {o : HO} (h : H p = none) : Same H (upd H p o) := fun b x e => by
  rw [upd_ne (ne_of_none e h)]
  exact e
theorem Ext.trans {F1 H1 : Hp} (a : Ext F H F1 H1) (b : Ext F1 H1 F' H') : Ext F H F' H' :=
  ⟨a.ff.trans b.ff, a.hh.trans b.hh, b.fh, fun c o h => by
    rcases b.nw c o h with q | q
    · exact a.nw c o q
    · exact .inr (a.hh.free q)⟩
/-- a new object, at once frozen -/
theorem Ext.new {p : Addr} {o : HO} (e : Same F H) (h : H p = none) : Ext F H (upd F p o) (upd H p o) :=
  ⟨same_upd (e.free h), same_upd h, fun b x q => by
    by_cases hb : b = p
    · subst hb; rw [upd_same] at q ⊢; exact q
    · rw [upd_ne hb] at q ⊢; exact e _ _ q, fun b x q => by
    by_cases hb : b = p
    · subst hb; exact .inr h
    · rw [upd_ne hb] at q; exact .inl q⟩
/-- a new object that is not frozen -/
theorem Ext.newH {p : Addr} {o : HO} (e : Same F H) (h : H p = none) : Ext F H F (upd H p o) :=
  ⟨Same.refl _, same_upd h, e.trans (same_upd h), fun _ _ q => .inl q⟩
theorem Rr.mono {v : V} {d : D} (e : Ext F H F' H') (h : Rr K ca F H v d) : Rr K ca F' H' v d := by
  rcases h with h | ⟨a, o, rfl, h1, h2⟩
  · exact .inl (h.mono e.ff)
  · exact .inr ⟨a, o, rfl, e.hh _ _ h1, h2.mono e.ff⟩
end

/-! ### the cells of a frame -/
inductive Cell where
  | emp | fz (d : D) | own (d : D) | brw (d : D) | io (d : D)
def Cell.val : Cell → Option D
  | .emp => none
  | .fz d => some d
  | .own d => some d
  | .brw d => some d
  | .io d => some d
def Cell.mine : Cell → Bool
  | .own _ => true
  | .io _ => true
  | _ => false
/-- the datum of a cell of one's own, changed -/
def Cell.put : Cell → D → Cell
  | .own _, d => .own d
  | .io _, d => .io d
  | c, _ => c
abbrev Ce := List Cell

/-- fixed through a def's run: what is frozen and what stands at the entry; what must stand as it is (all that is not handed in to be changed), and of it what is lent; the addresses of what is handed in to be changed -/
structure Gh where
  F0 : Hp
  H0 : Hp
  G : Hp
  B : Hp
  io : Nat → Option Addr

section
variable (K : PySem.W.Frag) (ca : Nat → Addr)
def CellOk (g : Gh) (F H : Hp) (i : Nat) (ov : Option V) : Cell → Prop
  | .emp => True
  | .fz d => ∃ v, ov = some v ∧ Rp K ca F v d
  | .own d => ∃ a o, ov = some (.ref a) ∧ H a = some o ∧ Ob K ca F o d ∧ F a = none ∧ g.H0 a = none
  | .brw d => ∃ v, ov = some v ∧ (Rp K ca F v d ∨ ∃ a o, v = .ref a ∧ g.B a = some o ∧ Ob K ca F o d)
  | .io d => ∃ a o, g.io i = some a ∧ ov = some (.ref a) ∧ H a = some o ∧ Ob K ca F o d ∧ F a = none ∧ g.G a = none
structure StOk (g : Gh) (F H : Hp) (σ : L2.St) (env : Ce) : Prop where
  fh : Same F H
  gh : Same g.G H
  g0 : Same g.G g.H0
  bg : Same g.B g.G
  f0 : Same g.F0 F
  fr : ∀ a o, F a = some o → g.F0 a = some o ∨ g.H0 a = none
  dom : ∀ a, H a = none → g.H0 a = none
  len : σ.length = env.length
  cel : ∀ (i : Nat) (c : Cell), env[i]? = some c → ∃ ov, σ[i]? = some ov ∧ CellOk K ca g F H i ov c
  inj : ∀ (i j : Nat) (a : Addr) (c e : Cell), env[i]? = some c → c.mine = true → env[j]? = some e → e.mine = true → σ[i]? = some (some (.ref a)) → σ[j]? = some (some (.ref a)) → i = j
/-- a new object of one's own that no slot holds -/
def OwnR (g : Gh) (F H : Hp) (σ : L2.St) (env : Ce) (v : V) (d : D) : Prop :=
  ∃ a o, v = .ref a ∧ H a = some o ∧ Ob K ca F o d ∧ F a = none ∧ g.H0 a = none ∧ ∀ (j : Nat) (c : Cell), env[j]? = some c → c.mine = true → σ[j]? ≠ some (some (.ref a))
end

section
variable {K : PySem.W.Frag} {ca : Nat → Addr} {g : Gh} {F F' H H' : Hp} {σ : L2.St} {env : Ce}
theorem CellOk.ext {i : Nat} {ov : Option V} {c : Cell} (e : Ext F H F' H') (h : CellOk K ca g F H i ov c) (g0 : Same g.G g.H0) (dom : ∀ a, H a = none → g.H0 a = none) : CellOk K ca g F' H' i ov c := by
  have fn : ∀ a o, H a = some o → F a = none → F' a = none := fun a o h1 h2 => by
    cases q : F' a with
    | none => rfl
    | some u =>
      rcases e.nw a u q with z | z
      · rw [h2] at z; cases z
      · rw [h1] at z; cases z
  cases c with
  | emp => trivial
  | fz d => obtain ⟨v, e1, r⟩ := h; exact ⟨v, e1, r.mono e.ff⟩
  | own d => obtain ⟨a, o, e1, h1, h2, h3, h4⟩ := h; exact ⟨a, o, e1, e.hh _ _ h1, h2.mono e.ff, fn a o h1 h3, h4⟩
  | brw d =>
    obtain ⟨v, e1, r⟩ := h
    refine ⟨v, e1, ?_⟩
    rcases r with r | ⟨a, o, e2, h1, h2⟩
    · exact .inl (r.mono e.ff)
    · exact .inr ⟨a, o, e2, h1, h2.mono e.ff⟩
  | io d => obtain ⟨a, o, e0, e1, h1, h2, h3, h4⟩ := h; exact ⟨a, o, e0, e1, e.hh _ _ h1, h2.mono e.ff, fn a o h1 h3, h4⟩
theorem StOk.ext (s : StOk K ca g F H σ env) (e : Ext F H F' H') : StOk K ca g F' H' σ env where
  fh := e.fh
  gh := s.gh.trans e.hh
  g0 := s.g0
  bg := s.bg
  f0 := s.f0.trans e.ff
  fr := fun a o h => by
    rcases e.nw a o h with q | q
    · rcases s.fr a o q with z | z
      · exact .inl z
      · exact .inr z
    · exact .inr (s.dom a q)
  dom := fun a h => s.dom a (e.hh.free h)
  len := s.len
  cel := fun i c h => by
    obtain ⟨ov, h1, h2⟩ := s.cel i c h
    exact ⟨ov, h1, h2.ext e s.g0 s.dom⟩
  inj := s.inj
/-- a cell of one's own: its address -/
theorem StOk.mine (s : StOk K ca g F H σ env) {i : Nat} {c : Cell} (h : env[i]? = some c) (m : c.mine = true) : ∃ a o d, c.val = some d ∧ σ[i]? = some (some (.ref a)) ∧ H a = some o ∧ Ob K ca F o d ∧ F a = none ∧ g.G a = none := by
  obtain ⟨ov, h1, h2⟩ := s.cel i c h
  cases c with
  | own d =>
    obtain ⟨a, o, rfl, q1, q2, q3, q4⟩ := h2
    exact ⟨a, o, d, rfl, h1, q1, q2, q3, s.g0.free q4⟩
  | io d =>
    obtain ⟨a, o, q0, rfl, q1, q2, q3, q4⟩ := h2
    exact ⟨a, o, d, rfl, h1, q1, q2, q3, q4⟩
  | emp => cases m
  | fz d => cases m
  | brw d => cases m
/-- a slot read -/
theorem StOk.read (s : StOk K ca g F H σ env) {i : Nat} {c : Cell} {d : D} (h : env[i]? = some c) (m : c.val = some d) : ∃ v, σ[i]? = some (some v) ∧ Rr K ca F H v d := by
  obtain ⟨ov, h1, h2⟩ := s.cel i c h
  cases c with
  | emp => cases m
  | fz d => cases m; obtain ⟨v, rfl, r⟩ := h2; exact ⟨v, h1, .inl r⟩
  | own d => cases m; obtain ⟨a, o, rfl, q1, q2, _⟩ := h2; exact ⟨_, h1, .inr ⟨a, o, rfl, q1, q2⟩⟩
  | brw d =>
    cases m
    obtain ⟨v, rfl, r⟩ := h2
    refine ⟨v, h1, ?_⟩
    rcases r with r | ⟨a, o, e2, q1, q2⟩
    · exact .inl r
    · exact .inr ⟨a, o, e2, s.gh _ _ (s.bg _ _ q1), q2⟩
  | io d => cases m; obtain ⟨a, o, _, rfl, q1, q2, _⟩ := h2; exact ⟨_, h1, .inr ⟨a, o, rfl, q1, q2⟩⟩
/-- a slot takes another cell; what the others ask stays -/
theorem StOk.put (s : StOk K ca g F H σ env) {i : Nat} {ov : Option V} {c : Cell} (hc : CellOk K ca g F H i ov c) (hi : i < env.length)
    (hm : c.mine = true → ∀ (j : Nat) (e : Cell) (a : Addr), j ≠ i → env[j]? = some e → e.mine = true → ov = some (.ref a) → σ[j]? ≠ some (some (.ref a))) : StOk K ca g F H (σ.set i ov) (env.set i c) := by
  refine ⟨s.fh, s.gh, s.g0, s.bg, s.f0, s.fr, s.dom, by rw [List.length_set, List.length_set, s.len], fun j e h => ?_, fun j k a c1 c2 h1 m1 h2 m2 e1 e2 => ?_⟩
  · by_cases q : j = i
    · subst q
      rw [List.getElem?_set_self hi] at h
      cases h
      exact ⟨ov, by rw [List.getElem?_set_self (by rw [s.len]; exact hi)], hc⟩
    · rw [List.getElem?_set_ne (Ne.symm q)] at h
      obtain ⟨o2, h1, h2⟩ := s.cel j e h
      exact ⟨o2, by rw [List.getElem?_set_ne (Ne.symm q)]; exact h1, h2⟩
  · have hi2 : i < σ.length := by rw [s.len]; exact hi
    by_cases q1 : j = i
    · by_cases q2 : k = i
      · rw [q1, q2]
      · subst q1
        rw [List.getElem?_set_self hi] at h1
        cases h1
        rw [List.getElem?_set_ne (Ne.symm q2)] at h2 e2
        rw [List.getElem?_set_self hi2] at e1
        exact absurd e2 (hm m1 k c2 a q2 h2 m2 (Option.some.inj e1))
    · by_cases q2 : k = i
      · subst q2
        rw [List.getElem?_set_self hi] at h2
        cases h2
        rw [List.getElem?_set_ne (Ne.symm q1)] at h1 e1
        rw [List.getElem?_set_self hi2] at e2
        exact absurd e1 (hm m2 j c1 a q1 h1 m1 (Option.some.inj e2))
      · rw [List.getElem?_set_ne (Ne.symm q1)] at h1 e1
        rw [List.getElem?_set_ne (Ne.symm q2)] at h2 e2
        exact s.inj j k a c1 c2 h1 m1 h2 m2 e1 e2
theorem StOk.setFz (s : StOk K ca g F H σ env) {i : Nat} {v : V} {d : D} (h : Rp K ca F v d) (hi : i < env.length) : StOk K ca g F H (σ.set i (some v)) (env.set i (.fz d)) :=
  s.put (c := .fz d) ⟨v, rfl, h⟩ hi fun m => by cases m
theorem StOk.setOwn (s : StOk K ca g F H σ env) {i : Nat} {v : V} {d : D} (h : OwnR K ca g F H σ env v d) (hi : i < env.length) : StOk K ca g F H (σ.set i (some v)) (env.set i (.own d)) := by
  obtain ⟨a, o, rfl, h1, h2, h3, h4, h5⟩ := h
  refine s.put (c := .own d) ⟨a, o, rfl, h1, h2, h3, h4⟩ hi fun _ j e b _ he m q => ?_
  cases q
  exact h5 j e he m
/-- a slot forgotten -/
theorem StOk.drop (s : StOk K ca g F H σ env) {i : Nat} {ov : Option V} (hi : i < env.length) : StOk K ca g F H (σ.set i ov) (env.set i .emp) :=
  s.put (c := .emp) trivial hi fun m => by cases m
/-- a new object is of one's own -/
theorem StOk.newOwn (s : StOk K ca g F H σ env) {p : Addr} {o : HO} {d : D} (hp : H p = none) (h : Ob K ca F o d) : StOk K ca g F (upd H p o) σ env ∧ OwnR K ca g F (upd H p o) σ env (.ref p) d := by
  have s1 := s.ext (Ext.newH (o := o) s.fh hp)
  refine ⟨s1, p, o, rfl, upd_same, h, s.fh.free hp, s.dom p hp, fun j c hc m q => ?_⟩
  obtain ⟨a, o2, d2, _, q1, q2, _⟩ := s.mine hc m
  rw [q] at q1
  cases q1
  rw [hp] at q2
  cases q2
/-- an object of one's own is frozen -/
theorem StOk.freeze (s : StOk K ca g F H σ env) {a : Addr} {o : HO} {d : D} (h1 : H a = some o) (h2 : Ob K ca F o d) (h3 : F a = none) (h4 : g.H0 a = none) (h5 : ∀ (j : Nat) (c : Cell), env[j]? = some c → c.mine = true → σ[j]? ≠ some (some (.ref a))) :
    StOk K ca g (upd F a o) H σ env ∧ Same F (upd F a o) ∧ Rp K ca (upd F a o) (.ref a) d := by
  have ff : Same F (upd F a o) := same_upd h3
  refine ⟨⟨fun b u q => ?_, s.gh, s.g0, s.bg, s.f0.trans ff, fun b u q => ?_, s.dom, s.len, fun i c hc => ?_, s.inj⟩, ff, (h2.mono ff).rp upd_same⟩
  · by_cases hb : b = a
    · subst hb; rw [upd_same] at q; cases q; exact h1
    · rw [upd_ne hb] at q; exact s.fh _ _ q
  · by_cases hb : b = a
    · subst hb; exact .inr h4
    · rw [upd_ne hb] at q; exact s.fr _ _ q
  · obtain ⟨ov, q1, q2⟩ := s.cel i c hc
    refine ⟨ov, q1, ?_⟩
    cases c with
    | emp => trivial
    | fz d => obtain ⟨v, e1, r⟩ := q2; exact ⟨v, e1, r.mono ff⟩
    | own d =>
      obtain ⟨b, u, e1, z1, z2, z3, z4⟩ := q2
      have hb : b ≠ a := fun z => h5 i _ hc rfl (by rw [q1, e1, z])
      exact ⟨b, u, e1, z1, z2.mono ff, by rw [upd_ne hb]; exact z3, z4⟩
    | brw d =>
      obtain ⟨v, e1, r⟩ := q2
      refine ⟨v, e1, ?_⟩
      rcases r with r | ⟨b, u, e2, z1, z2⟩
      · exact .inl (r.mono ff)
      · exact .inr ⟨b, u, e2, z1, z2.mono ff⟩
    | io d =>
      obtain ⟨b, u, e0, e1, z1, z2, z3, z4⟩ := q2
      have hb : b ≠ a := fun z => h5 i _ hc rfl (by rw [q1, e1, z])
      exact ⟨b, u, e0, e1, z1, z2.mono ff, by rw [upd_ne hb]; exact z3, z4⟩
theorem StOk.freezeR (s : StOk K ca g F H σ env) {v : V} {d : D} (h : OwnR K ca g F H σ env v d) : ∃ F', StOk K ca g F' H σ env ∧ Same F F' ∧ Rp K ca F' v d := by
  obtain ⟨a, o, rfl, h1, h2, h3, h4, h5⟩ := h
  exact ⟨_, s.freeze h1 h2 h3 h4 h5⟩
/-- the object of a slot is frozen -/
theorem StOk.freezeSlot (s : StOk K ca g F H σ env) {i : Nat} {d : D} (h : env[i]? = some (.own d)) : ∃ F' v, σ[i]? = some (some v) ∧ StOk K ca g F' H σ (env.set i (.fz d)) ∧ Same F F' ∧ Rp K ca F' v d := by
  obtain ⟨ov, q1, a, o, e1, h1, h2, h3, h4⟩ := s.cel i _ h
  subst e1
  have hi : i < env.length := (List.getElem?_eq_some_iff.mp h).1
  have s1 : StOk K ca g F H σ (env.set i .emp) := by
    have z := s.drop (i := i) (ov := some (.ref a)) hi
    rwa [show σ.set i (some (V.ref a)) = σ from by
      apply List.ext_getElem? ; intro j
      by_cases q : j = i
      · subst q; rw [List.getElem?_set_self (by rw [s.len]; exact hi), q1]
      · rw [List.getElem?_set_ne (Ne.symm q)]] at z
  obtain ⟨s2, ff, r⟩ := s1.freeze h1 h2 h3 h4 fun j c hc m q => by
    by_cases z : j = i
    · subst z
      rw [List.getElem?_set_self hi] at hc
      cases hc
      cases m
    · rw [List.getElem?_set_ne (Ne.symm z)] at hc
      exact z (s.inj j i a c _ hc m h rfl q q1)
  refine ⟨_, .ref a, q1, ?_, ff, r⟩
  have z := s2.setFz (i := i) r (by rw [List.length_set]; exact hi)
  rw [List.set_set] at z
  rwa [show σ.set i (some (V.ref a)) = σ from by
    apply List.ext_getElem? ; intro j
    by_cases q : j = i
    · subst q; rw [List.getElem?_set_self (by rw [s.len]; exact hi), q1]
    · rw [List.getElem?_set_ne (Ne.symm q)]] at z
/-- the object of a slot of one's own is written -/
theorem StOk.write (s : StOk K ca g F H σ env) {i : Nat} {c : Cell} {a : Addr} {o o' : HO} {d' : D} (h : env[i]? = some c) (m : c.mine = true) (ha : σ[i]? = some (some (.ref a))) (hH : H a = some o) (h' : Ob K ca F o' d') :
    StOk K ca g F (upd H a o') σ (env.set i (c.put d')) := by
  obtain ⟨b, ob, db, _, e1, z1, z2, z3, z4⟩ := s.mine h m
  rw [ha] at e1
  cases e1
  have hi : i < env.length := (List.getElem?_eq_some_iff.mp h).1
  have up : ∀ b u, b ≠ a → H b = some u → upd H a o' b = some u := fun b u hb q => by rw [upd_ne hb]; exact q
  refine ⟨fun b u q => up b u (fun z => by rw [z, z3] at q; cases q) (s.fh _ _ q), fun b u q => up b u (fun z => by rw [z, z4] at q; cases q) (s.gh _ _ q), s.g0, s.bg, s.f0, s.fr, fun b q => ?_, by rw [List.length_set, s.len], fun j e he => ?_, fun j k b c1 c2 q1 m1 q2 m2 => ?_⟩
  · by_cases hb : b = a
    · subst hb; rw [upd_same] at q; cases q
    · rw [upd_ne hb] at q; exact s.dom b q
  · by_cases q : j = i
    · subst q
      rw [List.getElem?_set_self hi] at he
      cases he
      obtain ⟨ov, y1, y2⟩ := s.cel j c h
      rw [ha] at y1
      cases y1
      refine ⟨_, ha, ?_⟩
      cases c with
      | own d =>
        obtain ⟨b, u, e1, w1, w2, w3, w4⟩ := y2
        cases e1
        exact ⟨a, o', rfl, upd_same, h', w3, w4⟩
      | io d =>
        obtain ⟨b, u, e0, e1, w1, w2, w3, w4⟩ := y2
        cases e1
        exact ⟨a, o', e0, rfl, upd_same, h', w3, w4⟩
      | emp => cases m
      | fz d => cases m
      | brw d => cases m
    · rw [List.getElem?_set_ne (Ne.symm q)] at he
      obtain ⟨ov, y1, y2⟩ := s.cel j e he
      refine ⟨ov, y1, ?_⟩
      cases e with
      | emp => trivial
      | fz d => exact y2
      | own d =>
        obtain ⟨b, u, e1, w1, w2, w3, w4⟩ := y2
        have hb : b ≠ a := fun z => q (s.inj j i a _ c he rfl h m (by rw [y1, e1, z]) ha)
        exact ⟨b, u, e1, up b u hb w1, w2, w3, w4⟩
      | brw d => exact y2
      | io d =>
        obtain ⟨b, u, e0, e1, w1, w2, w3, w4⟩ := y2
        have hb : b ≠ a := fun z => q (s.inj j i a _ c he rfl h m (by rw [y1, e1, z]) ha)
        exact ⟨b, u, e0, e1, up b u hb w1, w2, w3, w4⟩
  · have mm : ∀ (x : Nat) (e : Cell), (env.set i (c.put d'))[x]? = some e → e.mine = true → ∃ e', env[x]? = some e' ∧ e'.mine = true := fun x e q me => by
      by_cases z : x = i
      · subst z; exact ⟨c, h, m⟩
      · rw [List.getElem?_set_ne (Ne.symm z)] at q; exact ⟨e, q, me⟩
    obtain ⟨e1, p1, p2⟩ := mm j c1 q1 m1
    obtain ⟨e2, p3, p4⟩ := mm k c2 q2 m2
    exact s.inj j k b e1 e2 p1 p2 p3 p4
end
end DV


set_option maxRecDepth 100000
set_option maxHeartbeats 4000000
/-! DV2: a small language of codes, and what a code computes, over plain data. -/
noncomputable section
namespace DV
open PySem PySem.Spec PyProof.Rows L2

/-! ### data -/
mutual
def toPy : D → Option PyData
  | .non => some .none
  | .bl b => some (.bool b)
  | .int i => some (.int i)
  | .str s => some (.str s)
  | .tup xs => (toPys xs).map .tuple
  | .lst xs => (toPys xs).map .list
  | _ => none
def toPys : List D → Option (List PyData)
  | [] => some []
  | x :: xs => match toPy x, toPys xs with
    | some p, some ps => some (p :: ps)
    | _, _ => none
end
/-- a flat datum as a value -/
def toV : D → Option V
  | .non => some .non
  | .bl b => some (.bl b)
  | .int i => some (.int i)
  | .str s => some (.str s)
  | _ => none
def toVs : List D → Option (List V)
  | [] => some []
  | x :: xs => match toV x, toVs xs with
    | some v, some vs => some (v :: vs)
    | _, _ => none
def toInts : List D → Option (List Int)
  | [] => some []
  | .int i :: xs => (toInts xs).map (i :: ·)
  | _ :: _ => none
def toKey : D → Option Key
  | .int i => some (.inl i)
  | .str s => some (.inr s)
  | _ => none
def toKeys : List D → Option (List Key)
  | [] => some []
  | x :: xs => match toKey x, toKeys xs with
    | some v, some vs => some (v :: vs)
    | _, _ => none
def lookK {κ : Type} [DecidableEq κ] (kvs : List (κ × D)) (k : κ) : Option D := (kvs.find? fun kv => decide (kv.1 = k)).map (·.2)
def storeK {κ : Type} [DecidableEq κ] (kvs : List (κ × D)) (k : κ) (v : D) : List (κ × D) :=
  if (kvs.any fun kv => decide (kv.1 = k)) = true then kvs.map (fun kv => if kv.1 = k then (kv.1, v) else kv) else kvs ++ [(k, v)]
/-- what a dict holds at a key; none: not a key that it can have -/
def dGet : D → D → Option (Option D)
  | .dk kvs, k => (toKey k).map (lookK kvs)
  | .dt kvs, .tup ks => (toKeys ks).map (lookK kvs)
  | _, _ => none
def dPut : D → D → D → Option D
  | .dk kvs, k, v => if kvs.length < 1000000 then (toKey k).map fun k => .dk (storeK kvs k v) else none
  | .dt kvs, .tup ks, v => if kvs.length < 1000000 then (toKeys ks).map fun k => .dt (storeK kvs k v) else none
  | _, _, _ => none

/-! ### operations -/
inductive Op where
  | add | sub | mul | fdiv | mod | pow | neg
  | lt | le | gt | ge | eq | ne | isN | notN | isIn | notIn
  | len | abs | int | tru | not | idx | sl (lo hi : Bool) | fld (f : Str) | tuple | sum | repr | cnt | min2 | max2
  | dget | index
def eqD : D → D → Option Bool
  | .bl a, .bl b => some (a == b)
  | .int a, .int b => some (a == b)
  | .str a, .str b => some (a == b)
  | a, b => match toPy a, toPy b with
    | some p, some q => if SeqAt.shaped p = true ∧ SeqAt.shaped q = true then some (PyData.eqv p q) else none
    | _, _ => none
def inD : D → D → Option Bool
  | .str a, .str b => match a.cps.toList with
    | [c] => some (decide (c ∈ b.cps.toList))
    | _ => none
  | x, .tup ds => match toV x, toVs ds with
    | some v, some vs => some (inV v vs)
    | _, _ => none
  | x, .lst ds => match toV x, toVs ds with
    | some v, some vs => some (inV v vs)
    | _, _ => none
  | x, .wt ds => match toV x, toVs ds with
    | some v, some vs => some (inV v vs)
    | _, _ => none
  | x, .dk kvs => (dGet (.dk kvs) x).map Option.isSome
  | x, .dt kvs => (dGet (.dt kvs) x).map Option.isSome
  | _, _ => none
def truD : D → Option Bool
  | .non => some false
  | .bl b => some b
  | .int i => some (i != 0)
  | .str s => if s.length ≤ 1000000 then some ((s.length : Int) != 0) else none
  | .lst xs => some (!xs.isEmpty)
  | .tup xs => some (!xs.isEmpty)
  | .dk xs => some (!xs.isEmpty)
  | _ => none
def lenD : D → Option Nat
  | .str s => if s.length ≤ 1000000 then some s.length else none
  | .lst xs => some xs.length
  | .tup xs => some xs.length
  | .dk xs => some xs.length
  | _ => none
def idxD : D → D → Option D
  | .lst xs, .int i => atI xs i
  | .tup xs, .int i => atI xs i
  | .wt xs, .int i => atI xs i
  | .str s, .int i => if s.length ≤ 1000000 then (atI s.cps.toList i).map fun c => .str ⟨#[c]⟩ else none
  | _, _ => none
/-- the items of xs[lo:hi] -/
def cutL {α : Type} (xs : List α) (lo hi : Option Int) : List α := (xs.drop (HT.sIx xs.length 0 lo)).take (HT.sIx xs.length xs.length hi - HT.sIx xs.length 0 lo)
def partD : D → Option (Option Int)
  | .int i => some (some i)
  | _ => none
def slD (x : D) (lo hi : Option Int) : Option D := match x with
  | .str s => if s.length ≤ 1000000 then some (.str (cutS s lo hi)) else none
  | .tup xs => if HT.sIx xs.length 0 lo = 0 ∧ HT.sIx xs.length xs.length hi = xs.length then none else some (.tup (cutL xs lo hi))
  | _ => none
def reprD (x : D) : Option Str := match toPy x with
  | some p => if p.showable = true ∧ p.hasDict = false ∧ p.depth ≤ 60 ∧ p.shown.length ≤ 1000000 then some p.shown else none
  | none => none
def arith (o : Op) (i j : Int) : Option D := match o with
  | .add => some (.int (i + j))
  | .sub => some (.int (i - j))
  | .mul => if i.natAbs < 18446744073709551616 ∨ j.natAbs < 18446744073709551616 then some (.int (i * j)) else none
  | .fdiv => if j ≠ 0 ∧ j.natAbs < 1073741824 then some (.int (i.fdiv j)) else none
  | .mod => if j ≠ 0 then some (.int (i.fmod j)) else none
  | .pow => if 0 ≤ j ∧ j ≤ 1000000 ∧ i.natAbs < 18446744073709551616 then some (.int (i ^ j.toNat)) else none
  | .lt => some (.bl (decide (i < j)))
  | .le => some (.bl (decide (i ≤ j)))
  | .gt => some (.bl (decide (j < i)))
  | .ge => some (.bl (decide (j ≤ i)))
  | .min2 => some (.int (if j < i then j else i))
  | .max2 => some (.int (if j > i then j else i))
  | _ => none
def ints2 (f : Int → Int → Option D) : D → D → Option D
  | .int i, .int j => f i j
  | _, _ => none
def catD : D → D → Option D
  | .str a, .str b => if a.length + b.length ≤ 1000000 then some (.str (a ++ b)) else none
  | .int a, .int b => some (.int (a + b))
  | _, _ => none
def op2 (o : Op) (a b : D) : Option D := match o with
  | .add => catD a b
  | .eq => (eqD a b).map .bl
  | .ne => (eqD a b).map fun x => .bl (!x)
  | .isIn => (inD a b).map .bl
  | .notIn => (inD a b).map fun x => .bl (!x)
  | .idx => idxD a b
  | .sl lo hi => match lo, hi with
    | true, false => match partD b with
      | some l => slD a l none
      | none => none
    | false, true => match partD b with
      | some h => slD a none h
      | none => none
    | _, _ => none
  | .cnt => match a with
    | .lst xs => match toVs xs, toV b with
      | some vs, some v => some (.int ((vs.countP fun y => eqV y v : Nat) : Int))
      | _, _ => none
    | _ => none
  | .dget => match dGet a b with
    | some (some d) => some d
    | _ => none
  | .index => match a with
    | .str z => match b with
      | .str c => match c.cps.toList with
        | [c] => (z.cps.toList.findIdx? (· == c)).map fun j => .int (j : Nat)
        | _ => none
      | _ => none
    | _ => none
  | o => ints2 (arith o) a b
def op1 (o : Op) (a : D) : Option D := match o with
  | .neg => match a with
    | .int i => some (.int (-i))
    | _ => none
  | .isN => match a with
    | .non => some (.bl true)
    | _ => some (.bl false)
  | .notN => match a with
    | .non => some (.bl false)
    | _ => some (.bl true)
  | .len => (lenD a).map fun n => .int (n : Nat)
  | .abs => match a with
    | .int i => some (.int (if i < 0 then -i else i))
    | _ => none
  | .int => match a with
    | .int i => some (.int i)
    | .bl b => some (.int (if b then 1 else 0))
    | _ => none
  | .tru => (truD a).map .bl
  | .not => match a with
    | .bl b => some (.bl (!b))
    | _ => none
  | .fld f => match a with
    | .obj _ fs => fs.lookup f
    | _ => none
  | .tuple => match a with
    | .lst xs => some (.tup xs)
    | .tup xs => some (.tup xs)
    | _ => none
  | .sum => match a with
    | .lst xs => (toInts xs).map fun ns => .int ns.sum
    | _ => none
  | .repr => (reprD a).map .str
  | _ => none
def opD (o : Op) (ds : List D) : Option D := match ds with
  | [a] => op1 o a
  | [a, b] => op2 o a b
  | [a, b, c] => match o with
    | .sl true true => match partD b, partD c with
      | some l, some h => slD a l h
      | _, _ => none
    | _ => none
  | _ => none
/-- operations whose result is a new object -/
inductive FOp where
  | list | sl (lo hi : Bool) | rev | rep | dk0 | dt0
def fop (o : FOp) (ds : List D) : Option D := match o with
  | .dk0 => match ds with
    | [] => some (.dk [])
    | _ => none
  | .dt0 => match ds with
    | [] => some (.dt [])
    | _ => none
  | .list => match ds with
    | [.lst xs] => some (.lst xs)
    | [.tup xs] => some (.lst xs)
    | _ => none
  | .sl false false => match ds with
    | [.lst xs] => some (.lst (cutL xs none none))
    | _ => none
  | .sl true false => match ds with
    | [.lst xs, .int i] => some (.lst (cutL xs (some i) none))
    | _ => none
  | .sl false true => match ds with
    | [.lst xs, .int i] => some (.lst (cutL xs none (some i)))
    | [.scr ns, .int i] => some (.lst (cutL (ns.map D.int) none (some i)))
    | _ => none
  | .sl true true => match ds with
    | [.lst xs, .int i, .int j] => some (.lst (cutL xs (some i) (some j)))
    | _ => none
  | .rev => match ds with
    | [.lst xs] => some (.lst xs.reverse)
    | _ => none
  | .rep => match ds with
    | [.lst xs, .int k] => if k.natAbs < 9223372036854775808 ∧ xs.length * k.toNat ≤ 1000000 then some (.lst (List.replicate k.toNat xs).flatten) else none
    | _ => none
/-- operations that change an object: the answer and the object behind -/
inductive MOp where
  | append | extend | pop | put
def mop (o : MOp) (x : D) (ds : List D) : Option (D × D) := match o with
  | .append => match x, ds with
    | .lst xs, [d] => if xs.length < 1000000 then some (.non, .lst (xs ++ [d])) else none
    | _, _ => none
  | .extend => match x, ds with
    | .lst xs, [.lst ys] => if xs.length + ys.length ≤ 1000000 then some (.non, .lst (xs ++ ys)) else none
    | _, _ => none
  | .pop => match x, ds with
    | .lst xs, [] => (xs[xs.length - 1]?).map fun d => (d, .lst xs.dropLast)
    | _, _ => none
  | .put => match x, ds with
    | .lst xs, [.int i, d] => (ixN xs.length i).map fun j => (.non, .lst (xs.set j d))
    | .dk kvs, [k, d] => (dPut (.dk kvs) k d).map fun z => (.non, z)
    | .dt kvs, [k, d] => (dPut (.dt kvs) k d).map fun z => (.non, z)
    | _, _ => none

/-! ### codes -/
/-- targets of a for -/
inductive Tg where
  | name (i : Nat) | tup (is : List Nat)
mutual
inductive EC where
  | cst (d : D) | glb (n : Nat) | var (i : Nat) | op (o : Op) (as : ACs) | call (f : Nat) (as : ACs) | meth (m : Str) (a : EC) (as : ACs) | olen (a : EC) | new (c : Nat) (as : ACs)
  | and (a b : EC) | or (a b : EC) | ifx (c a b : EC) | chain (p q : Op) (a b c : EC) | mut (m : MOp) (i : Nat) (as : ACs) | tup (as : ACs) | fr (o : OC)
inductive ACs where
  | nil | e (a : EC) (r : ACs) | s (i : Nat) (r : ACs)
inductive OC where
  | op (o : FOp) (as : ACs) | lst (as : ACs) | call (f : Nat) (as : ACs) | lc (own : List Nat) (it : IC) (tg : Tg) (elt : EC) | lci (own : List Nat) (it : IC) (tg : Tg) (cd elt : EC)
inductive IC where
  | seq (a : EC) | rng1 (a : EC) | rng2 (a b : EC) | enum (a : EC) | zip (a b : EC)
end
mutual
inductive SC where
  | set (i : Nat) (e : EC) | setO (i : Nat) (e : OC) | unp (lst : Bool) (is : List Nat) (e : EC) | par (i j : Nat) (a b : EC) | aug (i : Nat) (o : Op) (e : EC) | put (i : Nat) (ix : EC) (e : EC) | augI (i : Nat) (o : Op) (ix : EC) (e : EC)
  | fset (i : Nat) (f : Str) (e : EC) | expr (e : EC) | ret (e : EC) | retO (e : OC) | retN | pass | brk | cont | never
  | ite (c : EC) (a b : SCs) | for_ (it : IC) (tg : Tg) (body : SCs) | whl (c : EC) (body : SCs)
inductive SCs where
  | nil | cons (s : SC) (r : SCs)
end
/-- how a parameter is handed in: frozen; lent, to be read; to be changed -/
inductive Md where
  | fz | brw | io
  deriving DecidableEq
/-- a def: its parameters' modes, the number of its slots, whether it hands back an object of the caller's own, its body -/
structure FnC where
  ms : List Md
  n : Nat
  ro : Bool
  body : SCs
inductive Res where
  | ret (d : D) (outs : List D) | exc (c : Nat) (fs : List (Str × D))
/-- the program: its defs, methods by class and name, __init__ by class, which attributes a class has, the module's constants -/
structure Tab where
  code : Nat → Option FnC
  meth : Nat → Str → Option Nat
  init : Nat → Option Nat
  attr : Nat → Str → Bool
  glo : Nat → Option D

/-! ### what a code computes -/
inductive RA where
  | v (d : D) | s (i : Nat)
def cellD (env : Ce) (i : Nat) : Option D := match env[i]? with
  | some c => c.val
  | none => none
def RA.get (env : Ce) : RA → Option D
  | .v d => some d
  | .s i => cellD env i
def getAll (env : Ce) : List RA → Option (List D)
  | [] => some []
  | a :: r => match a.get env, getAll env r with
    | some d, some ds => some (d :: ds)
    | _, _ => none
def allV : List RA → Option (List D)
  | [] => some []
  | .v d :: r => (allV r).map (d :: ·)
  | .s _ :: _ => none
def mineAt (env : Ce) (i : Nat) : Bool := match env[i]? with
  | some c => c.mine
  | none => false
/-- the slots that are handed in to be changed -/
def ioSl : List Md → List RA → List Nat
  | .io :: ms, .s i :: rs => i :: ioSl ms rs
  | _ :: ms, _ :: rs => ioSl ms rs
  | _, _ => []
/-- the arguments fit the modes -/
def argOk (env : Ce) (L : List Nat) : Md → RA → Bool
  | .fz, .v _ => true
  | .brw, .v _ => true
  | .brw, .s j => !L.contains j
  | .io, .s i => mineAt env i
  | _, _ => false
def argsOk2 (env : Ce) (L : List Nat) : List Md → List RA → Bool
  | [], [] => true
  | m :: ms, a :: as => argOk env L m a && argsOk2 env L ms as
  | _, _ => false
def argsOk (env : Ce) (ms : List Md) (rs : List RA) : Bool := decide (ioSl ms rs).Nodup && argsOk2 env (ioSl ms rs) ms rs
/-- what is handed in to be changed, behind the call -/
def putOuts : List Md → List RA → List D → Ce → Option Ce
  | [], [], [], env => some env
  | .io :: ms, .s i :: as, d :: ds, env => match env[i]? with
    | some c => putOuts ms as ds (env.set i (c.put d))
    | none => none
  | .fz :: ms, _ :: as, ds, env => putOuts ms as ds env
  | .brw :: ms, _ :: as, ds, env => putOuts ms as ds env
  | _, _, _, _ => none
def setTg (t : Tg) (d : D) (env : Ce) : Option Ce := match t with
  | .name i => if i < env.length then some (env.set i (.fz d)) else none
  | .tup is => match d with
    | .tup ds => if is.length = ds.length ∧ (is.all fun i => decide (i < env.length)) = true then some ((is.zip ds).foldl (fun e p => e.set p.1 (.fz p.2)) env) else none
    | _ => none
/-- a def's run at its arguments -/
abbrev Calls := Nat → List D → Option Res
/-- an answer, or an exception (its class, its fields) -/
inductive XR (α : Type) where
  | ok (a : α) (env : Ce) | ex (c : Nat) (fs : List (Str × D)) (env : Ce)
def bindX {α β : Type} (r : Option (XR α)) (k : α → Ce → Option (XR β)) : Option (XR β) := match r with
  | some (.ok a e) => k a e
  | some (.ex c fs e) => some (.ex c fs e)
  | none => none
def okO {α : Type} (r : Option α) (env : Ce) : Option (XR α) := match r with
  | some d => some (.ok d env)
  | none => none
def onlyOk {α : Type} : Option (XR α) → Option (α × Ce)
  | some (.ok a e) => some (a, e)
  | _ => none
/-- what was handed in to be changed is forgotten -/
def dropIo : List Md → List RA → Ce → Ce
  | .io :: ms, .s i :: as, env => dropIo ms as (env.set i .emp)
  | _ :: ms, _ :: as, env => dropIo ms as env
  | _, _, env => env

section
variable (T : Tab) (calls : Calls)
def callD (f : Nat) (ro : Bool) (as : List RA) (env : Ce) : Option (XR D) := match T.code f with
  | some c => if c.ro = ro ∧ argsOk env c.ms as = true then (match getAll env as with
    | some ds => (match calls f ds with
      | some (.ret d outs) => okO' d (putOuts c.ms as outs env)
      | some (.exc x fs) => some (.ex x fs (dropIo c.ms as env))
      | none => none)
    | none => none) else none
  | none => none
where okO' (d : D) : Option Ce → Option (XR D)
  | some env' => some (.ok d env')
  | none => none
def newD (c : Nat) (as : List RA) (env : Ce) : Option (XR D) := match T.init c with
  | some f => (match T.code f with
    | some k => if k.ro = false ∧ k.ms = .io :: as.map (fun _ => .fz) then (match allV as with
      | some ds => (match calls f (.obj c [] :: ds) with
        | some (.ret .non [o]) => some (.ok o env)
        | some (.exc x fs) => some (.ex x fs env)
        | _ => none)
      | none => none) else none
    | none => none)
  | none => none
/-- the def of an instance's method -/
def methF (m : Str) : D → Option Nat
  | .obj c fs => if (fs.map Prod.fst).contains m = false then T.meth c m else none
  | _ => none
def lenX : D → Ce → Option (XR D)
  | .int n, e => if 0 ≤ n ∧ n.natAbs < 9223372036854775808 then some (.ok (.int n) e) else none
  | _, _ => none
/-- items, told one after another -/
def itemsD : D → Option (List D)
  | .wt xs => some xs
  | .lst xs => some xs
  | .tup xs => some xs
  | .str s => some (s.cps.toList.map fun c => .str ⟨#[c]⟩)
  | _ => none
def rngD (lo hi : Int) : List D := (List.range (hi - lo).toNat).map fun i => .int (lo + (i : Nat))
/-- the walk of a comprehension: what is made so far, the cells -/
def lcD (step : D → Ce → Option (Option D × Ce)) : List D → List D → Ce → Option (List D × Ce)
  | [], acc, env => some (acc, env)
  | x :: xs, acc, env => match step x env with
    | some (some d, env') => if acc.length < 1000000 then lcD step xs (acc ++ [d]) env' else none
    | some (none, env') => lcD step xs acc env'
    | none => none
def isLst : Option D → Bool
  | some (.lst _) => true
  | _ => false
def plainCell : Cell → Bool
  | .emp => true
  | .fz _ => true
  | _ => false
def plainAt (env : Ce) (own : List Nat) : Bool := own.all fun i => match env[i]? with
  | some c => plainCell c
  | none => false
def wipeC (env : Ce) : List Nat → Ce
  | [] => env
  | i :: is => (wipeC env is).set i .emp
/-- the cells behind a comprehension: its own names have what they had before -/
def backC (env0 env : Ce) (own : List Nat) : Ce := env.mapIdx fun i c => if i ∈ own then env0.getD i .emp else c
def lcEnd (env1 : Ce) (own : List Nat) : Option (List D × Ce) → Option (XR D)
  | some (ds, env2) => some (.ok (.lst ds) (backC env1 env2 own))
  | none => none
def opT (o : Op) (ds : List D) : Option D := match o with
  | .fld f => (match ds with
    | [.obj c fs] => if T.attr c f = true then fs.lookup f else none
    | _ => none)
  | o => opD o ds
def mutD (m : MOp) (i : Nat) (rs : List RA) (env : Ce) : Option (XR D) := match allV rs, env[i]? with
  | some ds, some c => if c.mine = true then (match c.val with
    | some x => (match mop m x ds with
      | some r => some (.ok r.1 (env.set i (c.put r.2)))
      | none => none)
    | none => none) else none
  | _, _ => none
def boolX (k0 k1 : Ce → Option (XR D)) : D → Ce → Option (XR D)
  | .bl false, e => k0 e
  | .bl true, e => k1 e
  | _, _ => none
mutual
def evE : EC → Ce → Option (XR D)
  | .cst d, env => some (.ok d env)
  | .glb n, env => okO (T.glo n) env
  | .var i, env => match env[i]? with
    | some (.fz d) => some (.ok d env)
    | some (.own d) => some (.ok d (env.set i (.fz d)))
    | _ => none
  | .op o as, env => bindX (evA as env) fun rs env' => match getAll env' rs with
    | some ds => okO (opT T o ds) env'
    | none => none
  | .call f as, env => bindX (evA as env) fun rs env' => callD T calls f false rs env'
  | .meth m a as, env => bindX (evE a env) fun d env1 => match methF T m d with
    | some f => bindX (evA as env1) fun rs env' => callD T calls f false (.v d :: rs) env'
    | none => none
  | .olen a, env => bindX (evE a env) fun d env1 => match methF T "__len__" d with
    | some f => bindX (callD T calls f false [.v d] env1) lenX
    | none => none
  | .new c as, env => bindX (evA as env) fun rs env' => newD T calls c rs env'
  | .and a b, env => bindX (evE a env) (boolX (fun e => some (.ok (.bl false) e)) fun e => evE b e)
  | .or a b, env => bindX (evE a env) (boolX (fun e => evE b e) fun e => some (.ok (.bl true) e))
  | .ifx c a b, env => bindX (evE c env) (boolX (fun e => evE b e) fun e => evE a e)
  | .chain p q a b c, env => bindX (evE a env) fun x env1 => bindX (evE b env1) fun y env2 => match op2 p x y with
    | some (.bl true) => bindX (evE c env2) fun z env3 => okO (op2 q y z) env3
    | some (.bl false) => some (.ok (.bl false) env2)
    | _ => none
  | .mut m i as, env => if (mineAt env i && isLst (cellD env i)) = true then bindX (evA as env) fun rs env' => mutD m i rs env' else none
  | .tup as, env => bindX (evA as env) fun rs env' => match allV rs with
    | some ds => if ds.length ≤ 1000000 then some (.ok (.tup ds) env') else none
    | none => none
  | .fr o, env => evO o env
def evA : ACs → Ce → Option (XR (List RA))
  | .nil, env => some (.ok [] env)
  | .e a r, env => bindX (evE a env) fun d env1 => bindX (evA r env1) fun ds env2 => some (.ok (.v d :: ds) env2)
  | .s i r, env => match cellD env i with
    | some _ => bindX (evA r env) fun ds env2 => some (.ok (.s i :: ds) env2)
    | none => none
def evO : OC → Ce → Option (XR D)
  | .op o as, env => bindX (evA as env) fun rs env' => match getAll env' rs with
    | some ds => okO (fop o ds) env'
    | none => none
  | .lst as, env => bindX (evA as env) fun rs env' => match allV rs with
    | some ds => if ds.length ≤ 1000000 then some (.ok (.lst ds) env') else none
    | none => none
  | .call f as, env => bindX (evA as env) fun rs env' => callD T calls f true rs env'
  | .lc own it tg elt, env => bindX (evI it env) fun items env1 => if plainAt env1 own = true then lcEnd env1 own (lcD (fun x e => match setTg tg x (wipeC e own) with
      | some e1 => (match onlyOk (evE elt e1) with
        | some r => some (some r.1, r.2)
        | none => none)
      | none => none) items [] env1) else none
  | .lci own it tg cd elt, env => bindX (evI it env) fun items env1 => if plainAt env1 own = true then lcEnd env1 own (lcD (fun x e => match setTg tg x (wipeC e own) with
      | some e1 => (match onlyOk (evE cd e1) with
        | some (.bl true, e2) => (match onlyOk (evE elt e2) with
          | some r => some (some r.1, r.2)
          | none => none)
        | some (.bl false, e2) => some (none, e2)
        | _ => none)
      | none => none) items [] env1) else none
def evI : IC → Ce → Option (XR (List D))
  | .seq a, env => bindX (evE a env) fun d env' => okO (itemsD d) env'
  | .rng1 a, env => bindX (evE a env) fun d env' => match d with
    | .int j => if j.natAbs < 4611686018427387904 then some (.ok (rngD 0 j) env') else none
    | _ => none
  | .rng2 a b, env => bindX (evE a env) fun d env1 => bindX (evE b env1) fun e env2 => match d, e with
    | .int i, .int j => if i.natAbs < 4611686018427387904 ∧ j.natAbs < 4611686018427387904 then some (.ok (rngD i j) env2) else none
    | _, _ => none
  | .enum a, env => bindX (evE a env) fun d env' => match itemsD d with
    | some ds => some (.ok (ds.mapIdx fun i x => .tup [.int (i : Nat), x]) env')
    | none => none
  | .zip a b, env => bindX (evE a env) fun d env1 => bindX (evE b env1) fun e env2 => match itemsD d, itemsD e with
    | some ds, some es => some (.ok ((ds.zip es).map fun p => .tup [p.1, p.2]) env2)
    | _, _ => none
end
/-- a statement's end -/
inductive Fl where
  | nx (env : Ce) | rt (d : D) (env : Ce) | bk (env : Ce) | ct (env : Ce) | ex (c : Nat) (fs : List (Str × D)) (env : Ce)
def bindF {α : Type} (r : Option (XR α)) (k : α → Ce → Option Fl) : Option Fl := match r with
  | some (.ok a e) => k a e
  | some (.ex c fs e) => some (.ex c fs e)
  | none => none
def forD (step : D → Ce → Option Fl) : List D → Ce → Option Fl
  | [], env => some (.nx env)
  | x :: xs, env => match step x env with
    | some (.nx env') => forD step xs env'
    | some (.ct env') => forD step xs env'
    | some (.bk env') => some (.nx env')
    | r => r
/-- a while, so many turns -/
def whC (cond : Ce → Option (XR D)) (body : Ce → Option Fl) : Nat → Ce → Option Fl
  | 0, _ => none
  | n + 1, env => bindF (cond env) fun d e1 => match d with
    | .bl true => (match body e1 with
      | some (.nx e2) => whC cond body n e2
      | some (.ct e2) => whC cond body n e2
      | some (.bk e2) => some (.nx e2)
      | r => r)
    | .bl false => some (.nx e1)
    | _ => none
open Classical in
def whD (cond : Ce → Option (XR D)) (body : Ce → Option Fl) (env : Ce) : Option Fl :=
  if h : ∃ n r, whC cond body n env = some r then some (Classical.choose (Classical.choose_spec h)) else none
def nxO (r : Option Ce) : Option Fl := match r with
  | some e => some (.nx e)
  | none => none
def putD (i : Nat) (k v : D) (env : Ce) : Option Ce := match env[i]? with
  | some c => if c.mine = true then (match c.val with
    | some x => (match mop .put x [k, v] with
      | some r => some (env.set i (c.put r.2))
      | none => none)
    | none => none) else none
  | none => none
def augD (i : Nat) (x : D) (o : Op) (y : D) (env : Ce) : Option Ce := match op2 o x y with
  | some d => setD0 i (.fz d) env
  | none => none
where
  setD0 (i : Nat) (c : Cell) (env : Ce) : Option Ce := if i < env.length then some (env.set i c) else none
def fsetD (i : Nat) (f : Str) (d : D) (env : Ce) : Option Ce := match env[i]? with
  | some c => if c.mine = true then (match c.val with
    | some (.obj k fs) => if T.attr k f = true ∧ fs.length < 500 ∧ (fs.map Prod.fst).contains f = false then some (env.set i (c.put (.obj k (fs ++ [(f, d)])))) else none
    | _ => none) else none
  | none => none
def setD (i : Nat) (c : Cell) (env : Ce) : Option Ce := if i < env.length then some (env.set i c) else none
def boolF (k0 k1 : Ce → Option Fl) : D → Ce → Option Fl
  | .bl false, e => k0 e
  | .bl true, e => k1 e
  | _, _ => none
mutual
def evS : SC → Ce → Option Fl
  | .set i e, env => bindF (evE T calls e env) fun d env' => nxO (setD i (.fz d) env')
  | .setO i e, env => bindF (evO T calls e env) fun d env' => nxO (setD i (.own d) env')
  | .unp l is e, env => bindF (evE T calls e env) fun d env' => match l, d with
    | true, .lst ds => nxO (setTg (.tup is) (.tup ds) env')
    | false, .tup ds => nxO (setTg (.tup is) (.tup ds) env')
    | _, _ => none
  | .par i j a b, env => bindF (evE T calls a env) fun d env1 => bindF (evE T calls b env1) fun e env2 =>
    if i < env2.length ∧ j < env2.length ∧ i ≠ j then some (.nx ((env2.set i (.fz d)).set j (.fz e))) else none
  | .aug i o e, env => match env[i]? with
    | some (.fz x) => bindF (evE T calls e env) fun y env' => nxO (augD i x o y env')
    | _ => none
  | .put i ix e, env => bindF (evE T calls e env) fun v env1 => match cellD env1 i with
    | some _ => bindF (evE T calls ix env1) fun k env2 => nxO (putD i k v env2)
    | none => none
  | .augI i o ix e, env => match cellD env i with
    | some _ => bindF (evE T calls ix env) fun k env1 => (match cellD env1 i with
      | some (.lst xs) => (match opD .idx [.lst xs, k] with
        | some old => bindF (evE T calls e env1) fun y env2 => (match op2 o old y with
          | some new => nxO (putD i k new env2)
          | none => none)
        | none => none)
      | _ => none)
    | none => none
  | .fset i f e, env => bindF (evE T calls e env) fun d env' => nxO (fsetD T i f d env')
  | .expr e, env => bindF (evE T calls e env) fun _ env' => some (.nx env')
  | .ret e, env => bindF (evE T calls e env) fun d env' => some (.rt d env')
  | .retO e, env => bindF (evO T calls e env) fun d env' => some (.rt d env')
  | .retN, env => some (.rt .non env)
  | .pass, env => some (.nx env)
  | .brk, env => some (.bk env)
  | .cont, env => some (.ct env)
  | .never, _ => none
  | .ite c a b, env => bindF (evE T calls c env) (boolF (fun e => evSs b e) fun e => evSs a e)
  | .for_ it tg body, env => bindF (evI T calls it env) fun items env1 => forD (fun x e => match setTg tg x e with
      | some e1 => evSs body e1
      | none => none) items env1
  | .whl c body, env => whD (fun e => evE T calls c e) (fun e => evSs body e) env
def evSs : SCs → Ce → Option Fl
  | .nil, env => some (.nx env)
  | .cons s r, env => match evS s env with
    | some (.nx env') => evSs r env'
    | r => r
end
def mdCell : Md → D → Cell
  | .fz, d => .fz d
  | .brw, d => .brw d
  | .io, d => .io d
def start0 (c : FnC) (ds : List D) : Ce := (c.ms.zip ds).map (fun p => mdCell p.1 p.2) ++ List.replicate (c.n - ds.length) .emp
/-- what stands in the cells that were handed in to be changed -/
def outs : List Md → Ce → Option (List D)
  | [], _ => some []
  | .io :: ms, .io d :: r => match outs ms r with
    | some os => some (d :: os)
    | none => none
  | .fz :: ms, _ :: r => outs ms r
  | .brw :: ms, _ :: r => outs ms r
  | _, _ => none
def retO' (ms : List Md) (d : D) (env : Ce) : Option Res := match outs ms env with
  | some os => some (.ret d os)
  | none => none
def endC (c : FnC) : Option Fl → Option Res
  | some (.nx env) => if c.ro = false then retO' c.ms .non env else none
  | some (.rt d env) => retO' c.ms d env
  | some (.ex x fs _) => some (.exc x fs)
  | _ => none
def runC (c : FnC) (ds : List D) : Option Res := if ds.length = c.ms.length ∧ c.ms.length ≤ c.n then endC c (evSs T calls c.body (start0 c ds)) else none
end
/-- the program's run, so many calls deep -/
def run (T : Tab) : Nat → Calls
  | 0 => fun _ _ => none
  | n + 1 => fun f ds => match T.code f with
    | some c => runC T (run T n) c ds
    | none => none
end DV


set_option maxRecDepth 100000
set_option maxHeartbeats 4000000
/-! DV3: the readings of codes; arguments, operations. -/
namespace DV
open PySem PySem.Spec PyProof.Rows L2

theorem PE.imp {X : Cx} {e : Expr} {t t' : TE} (h : PE X e t) (i : ∀ σ H Q, t' σ H Q → t σ H Q) : PE X e t' := ⟨fun pins s σ H Q I q => h.run pins s σ H Q I (i σ H Q q)⟩
theorem PT.imp {X : Cx} {e : Expr} {t t' : TT} (h : PT X e t) (i : ∀ σ H Q, t' σ H Q → t σ H Q) : PT X e t' := ⟨fun pins s σ H Q I q => h.run pins s σ H Q I (i σ H Q q)⟩
theorem PW.imp {X : Cx} {e : Expr} {t t' : TT} (h : PW X e t) (i : ∀ σ H Q, t' σ H Q → t σ H Q) : PW X e t' := ⟨fun wh pins s σ H Q I q => h.run wh pins s σ H Q I (i σ H Q q)⟩
theorem PA.imp {X : Cx} {e : List Expr} {t t' : TA} (h : PA X e t) (i : ∀ σ H Q, t' σ H Q → t σ H Q) : PA X e t' := ⟨fun pos pins s σ H Q I q => h.run pos pins s σ H Q I (i σ H Q q)⟩
theorem PS.imp {X : Cx} {e : Stmt} {t t' : TS} (h : PS X e t) (i : ∀ D σ H, t' D σ H → t D σ H) : PS X e t' := ⟨fun pins s σ H D I q => h.run pins s σ H D I (i D σ H q)⟩
theorem PSs.imp {X : Cx} {e : List Stmt} {t t' : TS} (h : PSs X e t) (i : ∀ D σ H, t' D σ H → t D σ H) : PSs X e t' := ⟨fun pins s σ H D I q => h.run pins s σ H D I (i D σ H q)⟩
theorem PI.imp {X : Cx} {tg e : Expr} {t t' : TI} (h : PI X tg e t) (i : ∀ σ H Q, t' σ H Q → t σ H Q) : PI X tg e t' := ⟨fun pins s σ H Q I q => h.run pins s σ H Q I (i σ H Q q)⟩

section
variable (K : PySem.W.Frag) (ca : Nat → Addr)
/-- an exception's own dict -/
def XdOk (F H : Hp) (dd : Option Addr) (fs : List (Str × D)) : Prop :=
  fs = [] ∨ ∃ a fvs, dd = some a ∧ H a = some (.xd fvs) ∧ fvs.map Prod.fst = fs.map Prod.fst ∧ Rps K ca F (fvs.map Prod.snd) (fs.map Prod.snd)
/-- what is wanted behind a code -/
def Post {α : Type} (g : Gh) (σ : L2.St) (W : WX) (R : α → Ce → Prop) : Option (XR α) → Prop
  | some (.ok a env') => R a env'
  | some (.ex c fs env') => ∀ F' H' dd, StOk K ca g F' H' σ env' → XdOk K ca F' H' dd fs → W (.ref (ca c)) dd σ H'
  | none => False
variable (T : Tab) (calls : Calls) (W : WX)
/-- an expression's reading: told as a frozen datum -/
def tE (c : EC) : TE := fun σ H Q => ∃ (g : Gh) (F : Hp) (env : Ce), StOk K ca g F H σ env ∧
  Post K ca g σ W (fun d env' => ∀ v F' H', StOk K ca g F' H' σ env' → Same F F' → Rp K ca F' v d → Q v H') (evE T calls c env)
/-- .. told as a new object of one's own -/
def tO (c : OC) : TE := fun σ H Q => ∃ (g : Gh) (F : Hp) (env : Ce), StOk K ca g F H σ env ∧
  Post K ca g σ W (fun d env' => ∀ v F' H', StOk K ca g F' H' σ env' → Same F F' → OwnR K ca g F' H' σ env' v d → Q v H') (evO T calls c env)
/-- a test -/
def tT (c : EC) : TT := fun σ H Q => ∃ (g : Gh) (F : Hp) (env : Ce), StOk K ca g F H σ env ∧
  Post K ca g σ W (fun d env' => ∃ b, d = .bl b ∧ ∀ F' H', StOk K ca g F' H' σ env' → Same F F' → Q b H') (evE T calls c env)
def ArgV (F : Hp) (σ : L2.St) (v : V) : RA → Prop
  | .v d => Rp K ca F v d
  | .s i => σ[i]? = some (some v)
inductive ArgsV (F : Hp) (σ : L2.St) : List V → List RA → Prop
  | nil : ArgsV F σ [] []
  | cons {v : V} {r : RA} {vs : List V} {rs : List RA} : ArgV K ca F σ v r → ArgsV F σ vs rs → ArgsV F σ (v :: vs) (r :: rs)
/-- arguments from the left -/
def tAs (as : ACs) : TA := fun σ H Q => ∃ (g : Gh) (F : Hp) (env : Ce), StOk K ca g F H σ env ∧
  Post K ca g σ W (fun rs env' => ∀ vs F' H', StOk K ca g F' H' σ env' → Same F F' → ArgsV K ca F' σ vs rs → Q vs H') (evA T calls as env)
/-- one argument -/
inductive A1 where
  | e (c : EC) | s (i : Nat)
def A1.cons : A1 → ACs → ACs
  | .e c, r => .e c r
  | .s i, r => .s i r
def tA1 : A1 → TE
  | .e c => tE K ca T calls W c
  | .s i => tVar i
inductive Rrs (F H : Hp) : List V → List D → Prop
  | nil : Rrs F H [] []
  | cons {v : V} {d : D} {vs : List V} {ds : List D} : Rr K ca F H v d → Rrs F H vs ds → Rrs F H (v :: vs) (d :: ds)
end

section
variable {K : PySem.W.Frag} {ca : Nat → Addr} {T : Tab} {calls : Calls} {W : WX} {g : Gh} {F F' H H' : Hp} {σ : L2.St} {env env' : Ce}
theorem Post.mono {α : Type} {R R' : α → Ce → Prop} {m : Option (XR α)} (i : ∀ a e, R a e → R' a e) (h : Post K ca g σ W R m) : Post K ca g σ W R' m := by
  cases m with
  | none => exact h
  | some r =>
    cases r with
    | ok a e => exact i a e h
    | ex c fs e => exact h
theorem post_bind {α β : Type} {R : β → Ce → Prop} {m : Option (XR α)} {k : α → Ce → Option (XR β)} (h : Post K ca g σ W R (bindX m k)) : Post K ca g σ W (fun a e => Post K ca g σ W R (k a e)) m := by
  cases m with
  | none => exact h
  | some r =>
    cases r with
    | ok a e => exact h
    | ex c fs e => exact h
theorem post_okO {α : Type} {R : α → Ce → Prop} {m : Option α} (h : Post K ca g σ W R (okO m env)) : ∃ a, m = some a ∧ R a env := by
  cases m with
  | none => exact h.elim
  | some a => exact ⟨a, rfl, h⟩
theorem ArgV.mono {v : V} {r : RA} (e : Same F F') (h : ArgV K ca F σ v r) : ArgV K ca F' σ v r := by
  cases r with
  | v d => exact Rp.mono e h
  | s i => exact h
theorem cell_val {i : Nat} {d : D} (h : cellD env i = some d) : ∃ c, env[i]? = some c ∧ c.val = some d := by
  unfold cellD at h
  cases q : env[i]? with
  | none => rw [q] at h; cases h
  | some c => rw [q] at h; exact ⟨c, rfl, h⟩
theorem StOk.readC (s : StOk K ca g F H σ env) {i : Nat} {d : D} (h : cellD env i = some d) : ∃ v, σ[i]? = some (some v) ∧ Rr K ca F H v d := by
  obtain ⟨c, h1, h2⟩ := cell_val h
  exact s.read h1 h2
theorem ArgV.read (s : StOk K ca g F H σ env) {v : V} {r : RA} {d : D} (h : ArgV K ca F σ v r) (e : r.get env = some d) : Rr K ca F H v d := by
  cases r with
  | v d' => cases e; exact .inl h
  | s i =>
    obtain ⟨v', h3, h4⟩ := s.readC (show cellD env i = some d from e)
    have h' : σ[i]? = some (some v) := h
    rw [h'] at h3
    cases h3
    exact h4
theorem getAll_cons {a : RA} {r : List RA} {ds : List D} (h : getAll env (a :: r) = some ds) : ∃ d es, ds = d :: es ∧ a.get env = some d ∧ getAll env r = some es := by
  unfold getAll at h
  cases q : a.get env with
  | none => rw [q] at h; cases h
  | some d =>
    rw [q] at h
    cases q2 : getAll env r with
    | none => rw [q2] at h; cases h
    | some es => rw [q2] at h; cases h; exact ⟨d, es, rfl, rfl, rfl⟩
theorem ArgsV.read (s : StOk K ca g F H σ env) : ∀ {vs : List V} {rs : List RA} {ds : List D}, ArgsV K ca F σ vs rs → getAll env rs = some ds → Rrs K ca F H vs ds
  | _, _, ds, .nil, e => by cases e; exact .nil
  | _, _, ds, .cons h t, e => by
    obtain ⟨d, es, rfl, e1, e2⟩ := getAll_cons e
    exact .cons (h.read s e1) (ArgsV.read s t e2)
theorem ArgsV.allV : ∀ {vs : List V} {rs : List RA} {ds : List D}, ArgsV K ca F σ vs rs → allV rs = some ds → Rps K ca F vs ds
  | _, _, ds, .nil, e => by cases e; exact .nil
  | _, _, ds, .cons (r := r) (rs := rs) h t, e => by
    cases r with
    | s i => cases e
    | v d =>
      have e' : (DV.allV rs).map (fun x => d :: x) = some ds := e
      cases q : DV.allV rs with
      | none => rw [q] at e'; cases e'
      | some es => rw [q] at e'; cases e'; exact .cons h (ArgsV.allV t q)
theorem tAs_nil {Q : List V → Hp → Prop} (h : tAs K ca T calls W .nil σ H Q) : tNil σ H Q := by
  obtain ⟨g, F, env, s, k⟩ := h
  exact k [] F H s (Same.refl _) .nil
theorem tAs_cons {a : A1} {r : ACs} {Q : List V → Hp → Prop} (h : tAs K ca T calls W (a.cons r) σ H Q) : tCons (tA1 K ca T calls W a) (tAs K ca T calls W r) σ H Q := by
  obtain ⟨g, F, env, s, k⟩ := h
  cases a with
  | e c =>
    refine ⟨g, F, env, s, Post.mono (fun d env1 h1 v F1 H1 s1 f1 r1 => ?_) (post_bind k)⟩
    exact ⟨g, F1, env1, s1, Post.mono (fun ds env2 h2 vs F2 H2 s2 f2 r2 => h2 _ F2 H2 s2 (f1.trans f2) (.cons (Rp.mono f2 r1) r2)) (post_bind h1)⟩
  | s i =>
    have k' : Post K ca g σ W _ (match cellD env i with
      | some _ => bindX (evA T calls r env) fun ds env2 => some (.ok (.s i :: ds) env2)
      | none => none) := k
    cases q : cellD env i with
    | none => rw [q] at k'; exact k'.elim
    | some d =>
      rw [q] at k'
      obtain ⟨v, h3, h4⟩ := s.readC q
      refine ⟨v, h3, ?_⟩
      exact ⟨g, F, env, s, Post.mono (fun ds env2 h2 vs F2 H2 s2 f2 r2 => h2 _ F2 H2 s2 f2 (.cons h3 r2)) (post_bind k')⟩
theorem tA1.mono : ∀ (a : A1) (σ : L2.St) (H : Hp) (Q Q' : VK), (∀ v H', Q v H' → Q' v H') → tA1 K ca T calls W a σ H Q → tA1 K ca T calls W a σ H Q' := fun a σ H Q Q' i h => by
  cases a with
  | e c =>
    obtain ⟨g, F, env, s, k⟩ := h
    exact ⟨g, F, env, s, Post.mono (fun d env1 k v F' H' s1 f1 r1 => i _ _ (k v F' H' s1 f1 r1)) k⟩
  | s j =>
    obtain ⟨v, e, q⟩ := h
    exact ⟨v, e, i _ _ q⟩
/-- one reading of two operands -/
theorem two_of {a b : A1} {R : V → V → Hp → Prop} (h : tAs K ca T calls W (a.cons (b.cons .nil)) σ H fun vs H' => ∃ x y, vs = [x, y] ∧ R x y H') :
    tA1 K ca T calls W a σ H fun x H1 => tA1 K ca T calls W b σ H1 fun y H2 => R x y H2 := by
  refine tA1.mono a σ H _ _ (fun x H1 h1 => ?_) (tAs_cons h)
  refine tA1.mono b σ H1 _ _ (fun y H2 h2 => ?_) (tAs_cons h1)
  obtain ⟨x', y', e, r⟩ := tAs_nil h2
  injection e with e1 e2
  injection e2 with e2 _
  rw [e1, e2]
  exact r
theorem one_of {a : A1} {R : V → Hp → Prop} (h : tAs K ca T calls W (a.cons .nil) σ H fun vs H' => ∃ x, vs = [x] ∧ R x H') :
    tA1 K ca T calls W a σ H fun x H1 => R x H1 := by
  refine tA1.mono a σ H _ _ (fun x H1 h1 => ?_) (tAs_cons h)
  obtain ⟨x', e, r⟩ := tAs_nil h1
  injection e with e1 _
  rw [e1]
  exact r
theorem three_of {a b c : A1} {R : V → V → V → Hp → Prop} (h : tAs K ca T calls W (a.cons (b.cons (c.cons .nil))) σ H fun vs H' => ∃ x y z, vs = [x, y, z] ∧ R x y z H') :
    tA1 K ca T calls W a σ H fun x H1 => tA1 K ca T calls W b σ H1 fun y H2 => tA1 K ca T calls W c σ H2 fun z H3 => R x y z H3 := by
  refine tA1.mono a σ H _ _ (fun x H1 h1 => ?_) (tAs_cons h)
  refine tA1.mono b σ H1 _ _ (fun y H2 h2 => ?_) (tAs_cons h1)
  refine tA1.mono c σ H2 _ _ (fun z H3 h3 => ?_) (tAs_cons h2)
  obtain ⟨x', y', z', e, r⟩ := tAs_nil h3
  injection e with e1 e2
  injection e2 with e2 e3
  injection e3 with e3 _
  rw [e1, e2, e3]
  exact r

/-! ### operations on values -/
/-- R is a reading of the operation: frozen data come out -/
def OpS (K : PySem.W.Frag) (ca : Nat → Addr) (o : Op) (R : List V → Hp → VK → Prop) : Prop :=
  ∀ (F H : Hp) (vs : List V) (ds : List D) (d : D) (Q : VK), Same F H → Rrs K ca F H vs ds → opD o ds = some d → (∀ v F' H', Ext F H F' H' → Rp K ca F' v d → Q v H') → R vs H Q
def FopS (K : PySem.W.Frag) (ca : Nat → Addr) (o : FOp) (R : List V → Hp → VK → Prop) : Prop :=
  ∀ (F H : Hp) (vs : List V) (ds : List D) (d : D) (Q : VK), Same F H → Rrs K ca F H vs ds → fop o ds = some d → (∀ p ob, H p = none → Ob K ca F ob d → Q (.ref p) (upd H p ob)) → R vs H Q
def notFld : Op → Bool
  | .fld _ => false
  | _ => true
theorem opT_eq {o : Op} (h : notFld o = true) (ds : List D) : opT T o ds = opD o ds := by
  cases o with
  | fld f => cases h
  | _ => rfl
theorem tE_op {o : Op} {as : ACs} {R : List V → Hp → VK → Prop} {Q : VK} (hn : notFld o = true) (hR : OpS K ca o R) (h : tE K ca T calls W (.op o as) σ H Q) : tAs K ca T calls W as σ H fun vs H' => R vs H' Q := by
  obtain ⟨g, F, env, s, k⟩ := h
  refine ⟨g, F, env, s, Post.mono (fun rs env1 h1 vs F1 H1 s1 f1 a => ?_) (post_bind k)⟩
  cases q : getAll env1 rs with
  | none => rw [q] at h1; exact h1.elim
  | some ds =>
    rw [q] at h1
    obtain ⟨d, e, k2⟩ := post_okO h1
    rw [opT_eq hn] at e
    exact hR F1 H1 vs ds d Q s1.fh (a.read s1 q) e fun v F2 H2 x r => k2 v F2 H2 (s1.ext x) (f1.trans x.ff) r
theorem tO_op {o : FOp} {as : ACs} {R : List V → Hp → VK → Prop} {Q : VK} (hR : FopS K ca o R) (h : tO K ca T calls W (.op o as) σ H Q) : tAs K ca T calls W as σ H fun vs H' => R vs H' Q := by
  obtain ⟨g, F, env, s, k⟩ := h
  refine ⟨g, F, env, s, Post.mono (fun rs env1 h1 vs F1 H1 s1 f1 a => ?_) (post_bind k)⟩
  cases q : getAll env1 rs with
  | none => rw [q] at h1; exact h1.elim
  | some ds =>
    rw [q] at h1
    obtain ⟨d, e, k2⟩ := post_okO h1
    refine hR F1 H1 vs ds d Q s1.fh (a.read s1 q) e fun p ob hp hob => ?_
    obtain ⟨s2, r⟩ := s1.newOwn hp hob
    exact k2 _ F1 _ s2 f1 r
/-- a new object, frozen at once -/
theorem tE_fr {o : OC} {Q : VK} (h : tE K ca T calls W (.fr o) σ H Q) : tO K ca T calls W o σ H Q := by
  obtain ⟨g, F, env, s, k⟩ := h
  refine ⟨g, F, env, s, Post.mono (fun d env1 k v F' H' s1 f1 r => ?_) k⟩
  obtain ⟨F2, s2, f2, r2⟩ := s1.freezeR r
  exact k v F2 H' s2 (f1.trans f2) r2
/-- a test whose value is told -/
theorem tE_tT {c : EC} {Q : Bool → Hp → Prop} (h : tT K ca T calls W c σ H Q) : tE K ca T calls W c σ H fun x H' => ∃ k, x = .bl k ∧ Q k H' := by
  obtain ⟨g, F, env, s, k⟩ := h
  refine ⟨g, F, env, s, Post.mono (fun d env1 k v F' H' s1 f1 r => ?_) k⟩
  obtain ⟨b, rfl, k⟩ := k
  cases r
  exact ⟨b, rfl, k F' H' s1 f1⟩
end

/-! ### judgements -/
section
variable (X : Cx) (W : WX) (ca : Nat → Addr) (T : Tab) (calls : Calls)
abbrev DE (e : Expr) (c : EC) : Prop := PE X e (tE X.K ca T calls W c)
abbrev DO (e : Expr) (c : OC) : Prop := PE X e (tO X.K ca T calls W c)
abbrev DT (e : Expr) (c : EC) : Prop := PT X e (tT X.K ca T calls W c)
abbrev DW (e : Expr) (c : EC) : Prop := PW X e (tT X.K ca T calls W c)
abbrev DA (e : Expr) (c : A1) : Prop := PE X e (tA1 X.K ca T calls W c)
abbrev DAs (es : List Expr) (c : ACs) : Prop := PA X es (tAs X.K ca T calls W c)
end
section
variable {X : Cx} {W : WX} {ca : Nat → Addr} {T : Tab} {calls : Calls} {e a b c : Expr} {es : List Expr} {pos : Pos}
theorem da_e {c : EC} (h : DE X W ca T calls e c) : DA X W ca T calls e (.e c) := h
theorem da_s (i : Nat) {x : Str} (hN : X.N[i]? = some x := by rfl) (hv : Vis X.env.scope x := by first | exact Or.inl rfl | exact Or.inr (Or.inl rfl) | exact Or.inr (Or.inr rfl)) (hd : (x == ("__debug__" : Str)) = false := by decide)
    (hcd : (x == ("__classdict__" : Str)) = false := by decide) : DA X W ca T calls (.Name x pos) (.s i) := pe_var hN hv hd hcd
theorem das_nil : DAs X W ca T calls [] .nil := PA.imp pa_nil fun _ _ _ h => tAs_nil h
theorem das_cons {c : A1} {r : ACs} (ha : DA X W ca T calls e c) (hr : DAs X W ca T calls es r) (hs : starEach (e :: es) X.env = (false, eval e X.env) :: starEach es X.env := by rfl) : DAs X W ca T calls (e :: es) (c.cons r) :=
  PA.imp (pa_cons ha hr hs) fun _ _ _ h => tAs_cons h
/-- a name, read (and frozen, if it is of one's own) -/
theorem de_var (i : Nat) {x : Str} (hN : X.N[i]? = some x := by rfl) (hv : Vis X.env.scope x := by first | exact Or.inl rfl | exact Or.inr (Or.inl rfl) | exact Or.inr (Or.inr rfl)) (hd : (x == ("__debug__" : Str)) = false := by decide)
    (hcd : (x == ("__classdict__" : Str)) = false := by decide) : DE X W ca T calls (.Name x pos) (.var i) := PE.imp (pe_var hN hv hd hcd) fun σ H Q h => by
  obtain ⟨g, F, env, s, k⟩ := h
  have k' : Post X.K ca g σ W _ (match env[i]? with
    | some (.fz d) => some (.ok d env)
    | some (.own d) => some (.ok d (env.set i (.fz d)))
    | _ => none) := k
  cases q : env[i]? with
  | none => rw [q] at k'; exact k'.elim
  | some c =>
    rw [q] at k'
    cases c with
    | fz d' =>
      obtain ⟨ov, h1, v, rfl, r⟩ := s.cel i _ q
      exact ⟨v, h1, k' v F H s (Same.refl _) r⟩
    | own d' =>
      obtain ⟨F', v, h1, s1, f1, r⟩ := s.freezeSlot q
      exact ⟨v, h1, k' v F' H s1 f1 r⟩
    | emp => exact k'.elim
    | brw d' => exact k'.elim
    | io d' => exact k'.elim
/-- constants -/
theorem de_cst {d : D} {v : V} (h : PE X e (tC v)) (r : ∀ F, Rp X.K ca F v d) : DE X W ca T calls e (.cst d) := PE.imp h fun σ H Q h => by
  obtain ⟨g, F, env, s, k⟩ := h
  exact k v F H s (Same.refl _) (r F)
theorem de_int {i j} : DE X W ca T calls (.Constant (.int i) j pos) (.cst (.int i)) := de_cst pe_int fun _ => .int i
theorem de_bl {i j} : DE X W ca T calls (.Constant (.bool i) j pos) (.cst (.bl i)) := de_cst pe_bl fun _ => .bl i
theorem de_str {i j} : DE X W ca T calls (.Constant (.str i) j pos) (.cst (.str i)) := de_cst pe_str fun _ => .str i
theorem de_non {j} : DE X W ca T calls (.Constant .none j pos) (.cst .non) := de_cst pe_non fun _ => .non
/-- a constant of the module -/
theorem de_glb {n : Nat} {x : Str} {d : D} {v : V} {u : Value} (hg : Gl X x) (hm : X.mg x = some u) (hr : RelV v u) (hT : T.glo n = some d) (r : ∀ F, Rp X.K ca F v d) (hd : (x == ("__debug__" : Str)) = false := by decide) : DE X W ca T calls (.Name x pos) (.glb n) :=
  PE.imp (pe_glob hg hm hr hd) fun σ H Q h => by
    obtain ⟨g, F, env, s, k⟩ := h
    have k' : Post X.K ca g σ W _ (okO (T.glo n) env) := k
    rw [hT] at k'
    exact k' v F H s (Same.refl _) (r F)
/-- an operator on two operands -/
abbrev R2L (r : R2) : List V → Hp → VK → Prop := fun vs H Q => ∃ x y, vs = [x, y] ∧ r x y H Q
abbrev R1L (r : V → Hp → VK → Prop) : List V → Hp → VK → Prop := fun vs H Q => ∃ x, vs = [x] ∧ r x H Q
theorem de_bin {op : Operator} {r : R2} {o : Op} {ac bc : A1} (ho : OpR X (binaryOp op) r) (hs : OpS X.K ca o (R2L r)) (ha : DA X W ca T calls a ac) (hb : DA X W ca T calls b bc) (hn : notFld o = true := by rfl) : DE X W ca T calls (.BinOp a op b pos) (.op o (ac.cons (bc.cons .nil))) :=
  PE.imp (pe_op ho ha hb) fun σ H Q h => two_of (tE_op hn hs h)
theorem de_cmp {op : CmpOp} {r : R2} {o : Op} {ac bc : A1} (ho : OpR X (compareOp op) r) (hs : OpS X.K ca o (R2L r)) (ha : DA X W ca T calls a ac) (hb : DA X W ca T calls b bc) (hm : behindInMarks op b = false) (hn : notFld o = true := by rfl) : DE X W ca T calls (.Compare a [op] [b] pos) (.op o (ac.cons (bc.cons .nil))) :=
  PE.imp (pe_cmpR ho ha hb hm) fun σ H Q h => two_of (tE_op hn hs h)
theorem dt_cmp {op : CmpOp} {r : R2} {o : Op} {ac bc : A1} (ho : OpR X (compareOp op) r) (hs : OpS X.K ca o (R2L r)) (ha : DA X W ca T calls a ac) (hb : DA X W ca T calls b bc) (hm : behindInMarks op b = false) (hn : notFld o = true := by rfl) : DT X W ca T calls (.Compare a [op] [b] pos) (.op o (ac.cons (bc.cons .nil))) :=
  PT.imp (pt_cmpR ho ha hb hm) fun σ H Q h => two_of (tE_op hn hs (tE_tT h))
/-- is None, is not None -/
theorem de_isN {o : Op} {op : CmpOp} {ac : A1} {f : V → V} {j pos'} (ho : OpR X (compareOp op) fun x y H Q => y = .non ∧ Q (f x) H) (hs : OpS X.K ca o (R1L fun x H Q => Q (f x) H)) (ha : DA X W ca T calls a ac) (hm : behindInMarks op (.Constant .none j pos') = false := by rfl) (hn : notFld o = true := by rfl) : DE X W ca T calls (.Compare a [op] [.Constant .none j pos'] pos) (.op o (ac.cons .nil)) :=
  PE.imp (pe_cmpR ho ha (pe_non (X := X)) hm) fun σ H Q h => tA1.mono ac σ H _ _ (fun x H1 h1 => ⟨rfl, h1⟩) (one_of (tE_op hn hs h))
theorem dt_isN {o : Op} {op : CmpOp} {ac : A1} {f : V → V} {j pos'} (ho : OpR X (compareOp op) fun x y H Q => y = .non ∧ Q (f x) H) (hs : OpS X.K ca o (R1L fun x H Q => Q (f x) H)) (ha : DA X W ca T calls a ac) (hm : behindInMarks op (.Constant .none j pos') = false := by rfl) (hn : notFld o = true := by rfl) : DT X W ca T calls (.Compare a [op] [.Constant .none j pos'] pos) (.op o (ac.cons .nil)) :=
  PT.imp (pt_cmpR ho ha (pe_non (X := X)) hm) fun σ H Q h => tA1.mono ac σ H _ _ (fun x H1 h1 => ⟨rfl, h1⟩) (one_of (tE_op hn hs (tE_tT h)))
theorem de_un {op : UnaryOp} {r : V → Hp → VK → Prop} {o : Op} {ac : A1} (ho : UnR X (unaryOp op) r) (hs : OpS X.K ca o (R1L r)) (ha : DA X W ca T calls a ac) (hn : notFld o = true := by rfl) : DE X W ca T calls (.UnaryOp op a pos) (.op o (ac.cons .nil)) :=
  PE.imp (pe_un ho ha) fun σ H Q h => one_of (tE_op hn hs h)
theorem de_ix {r : R2} {o : Op} {ac bc : A1} (ho : IxR X r) (hs : OpS X.K ca o (R2L r)) (ha : DA X W ca T calls a ac) (hb : DA X W ca T calls b bc) (hp : PlainIx b) (hn : notFld o = true := by rfl) : DE X W ca T calls (.Subscript a b pos) (.op o (ac.cons (bc.cons .nil))) :=
  PE.imp (pe_ix ho ha hb hp) fun σ H Q h => two_of (tE_op hn hs h)
/-- a built-in function, class called -/
theorem de_callB {r : List V → Hp → VK → Prop} {o : Op} {as : ACs} {id : String} {x : Str} {p : Pos} (hc : CallR X (.builtin id) r) (hs : OpS X.K ca o r) (hg : Gl X x) (hm : X.mg x = none) (hv : bootBuiltins x = some (.builtin id)) (ha : DAs X W ca T calls (e :: es) as)
    (hn : notFld o = true := by rfl) (hn2 : x ≠ "__name__" := by decide) (hdb : (x == ("__debug__" : Str)) = false := by decide) (he : starEach (e :: es) X.env = (false, eval e X.env) :: starEach es X.env := by rfl) (hpl : (backTo pos (starEach es X.env)).any (·.1) = false := by rfl) : DE X W ca T calls (.Call (.Name x p) (e :: es) [] pos) (.op o as) :=
  PE.imp (pe_callB hc hg hm hv ha hn2 hdb he hpl) fun σ H Q h => tE_op hn hs h
theorem de_callTy {r : List V → Hp → VK → Prop} {o : Op} {as : ACs} {id : String} {x : Str} {p : Pos} (hc : CallR X (.type id) r) (hs : OpS X.K ca o r) (hg : Gl X x) (hm : X.mg x = none) (hv : bootBuiltins x = some (.type id)) (ha : DAs X W ca T calls (e :: es) as)
    (hn : notFld o = true := by rfl) (hn2 : x ≠ "__name__" := by decide) (hdb : (x == ("__debug__" : Str)) = false := by decide) (he : starEach (e :: es) X.env = (false, eval e X.env) :: starEach es X.env := by rfl) (hpl : (backTo pos (starEach es X.env)).any (·.1) = false := by rfl) : DE X W ca T calls (.Call (.Name x p) (e :: es) [] pos) (.op o as) :=
  PE.imp (pe_callTy hc hg hm hv ha hn2 hdb he hpl) fun σ H Q h => tE_op hn hs h
theorem do_callTy {r : List V → Hp → VK → Prop} {o : FOp} {as : ACs} {id : String} {x : Str} {p : Pos} (hc : CallR X (.type id) r) (hs : FopS X.K ca o r) (hg : Gl X x) (hm : X.mg x = none) (hv : bootBuiltins x = some (.type id)) (ha : DAs X W ca T calls (e :: es) as)
    (hn2 : x ≠ "__name__" := by decide) (hdb : (x == ("__debug__" : Str)) = false := by decide) (he : starEach (e :: es) X.env = (false, eval e X.env) :: starEach es X.env := by rfl) (hpl : (backTo pos (starEach es X.env)).any (·.1) = false := by rfl) : DO X W ca T calls (.Call (.Name x p) (e :: es) [] pos) (.op o as) :=
  PE.imp (pe_callTy hc hg hm hv ha hn2 hdb he hpl) fun σ H Q h => tO_op hs h
theorem do_bin {op : Operator} {r : R2} {o : FOp} {ac bc : A1} (ho : OpR X (binaryOp op) r) (hs : FopS X.K ca o (R2L r)) (ha : DA X W ca T calls a ac) (hb : DA X W ca T calls b bc) : DO X W ca T calls (.BinOp a op b pos) (.op o (ac.cons (bc.cons .nil))) :=
  PE.imp (pe_op ho ha hb) fun σ H Q h => two_of (tO_op hs h)
theorem de_fr {c : OC} (h : DO X W ca T calls e c) : DE X W ca T calls e (.fr c) := PE.imp h fun σ H Q h => tE_fr h
/-- an expression whose value is True or False, as a test -/
theorem dt_val {c : EC} (h : DE X W ca T calls e c) (he : ∀ whole, isTrue e X.env whole = (do let v ← whole; standAt e.pos; holding [v] (truthy v)) := by intro _; rfl) : DT X W ca T calls e c := PT.imp (pt_val h he) fun σ H Q h => tE_tT h
end
end DV


set_option maxRecDepth 100000
set_option maxHeartbeats 4000000
/-! DV4: the operations' readings. -/
namespace DV
open PySem PySem.Spec PyProof.Rows L2

theorem lim1 {n : Nat} (h : n ≤ 1000000) : n ≤ sizeLine := Nat.le_trans h (by decide)
theorem lim2 {n : Nat} (h : n < 1000000) : n < sizeLine := Nat.lt_of_lt_of_le h (by decide)

section
variable {K : PySem.W.Frag} {ca : Nat → Addr} {F F' H H' : Hp} {v : V}
theorem Rr.int {i : Int} (h : Rr K ca F H v (.int i)) : v = .int i := by
  rcases h with h | ⟨a, o, _, _, h⟩
  · cases h; rfl
  · cases h
theorem Rr.str {i : Str} (h : Rr K ca F H v (.str i)) : v = .str i := by
  rcases h with h | ⟨a, o, _, _, h⟩
  · cases h; rfl
  · cases h
theorem Rr.bl {i : Bool} (h : Rr K ca F H v (.bl i)) : v = .bl i := by
  rcases h with h | ⟨a, o, _, _, h⟩
  · cases h; rfl
  · cases h
theorem Rr.non (h : Rr K ca F H v .non) : v = .non := by
  rcases h with h | ⟨a, o, _, _, h⟩
  · cases h; rfl
  · cases h
theorem Rr.lst {ds : List D} (e : Same F H) (h : Rr K ca F H v (.lst ds)) : ∃ a vs, v = .ref a ∧ H a = some (.lst vs) ∧ Rps K ca F vs ds := by
  rcases h with h | ⟨a, o, rfl, h1, h⟩
  · cases h with
    | lst h r => exact ⟨_, _, rfl, e _ _ h, r⟩
  · cases h with
    | lst r => exact ⟨a, _, rfl, h1, r⟩
theorem Rr.tup {ds : List D} (h : Rr K ca F H v (.tup ds)) : ∃ a vs, v = .ref a ∧ F a = some (.tup vs) ∧ Rps K ca F vs ds ∧ Rp K ca F v (.tup ds) := by
  rcases h with h | ⟨a, o, rfl, h1, h⟩
  · cases h with
    | tup h r => exact ⟨_, _, rfl, h, r, .tup h r⟩
  · cases h
theorem Rr.wt {ds : List D} (h : Rr K ca F H v (.wt ds)) : ∃ a vs, v = .ref a ∧ SqT K F a vs ∧ Rps K ca F vs ds := by
  rcases h with h | ⟨a, o, rfl, h1, h⟩
  · cases h with
    | wt h r => exact ⟨_, _, rfl, h, r⟩
  · cases h
theorem Rr.scr {ns : List Int} (e : Same F H) (h : Rr K ca F H v (.scr ns)) : ∃ a, v = .ref a ∧ SqL K H a (ns.map V.int) := by
  rcases h with h | ⟨a, o, rfl, h1, h⟩
  · cases h with
    | scr h => exact ⟨_, rfl, e.seq h⟩
  · cases h
theorem Rr.dk {ds : List (Key × D)} (e : Same F H) (h : Rr K ca F H v (.dk ds)) : ∃ a kvs, v = .ref a ∧ H a = some (.dK kvs) ∧ kvs.map Prod.fst = ds.map Prod.fst ∧ Rps K ca F (kvs.map Prod.snd) (ds.map Prod.snd) := by
  rcases h with h | ⟨a, o, rfl, h1, h⟩
  · cases h with
    | dk h k r => exact ⟨_, _, rfl, e _ _ h, k, r⟩
  · cases h with
    | dk k r => exact ⟨a, _, rfl, h1, k, r⟩
theorem Rr.dt {ds : List (List Key × D)} (e : Same F H) (h : Rr K ca F H v (.dt ds)) : ∃ a kvs, v = .ref a ∧ H a = some (.dT kvs) ∧ kvs.map Prod.fst = ds.map Prod.fst ∧ Rps K ca F (kvs.map Prod.snd) (ds.map Prod.snd) := by
  rcases h with h | ⟨a, o, rfl, h1, h⟩
  · cases h with
    | dt h k r => exact ⟨_, _, rfl, e _ _ h, k, r⟩
  · cases h with
    | dt k r => exact ⟨a, _, rfl, h1, k, r⟩
theorem Rr.obj {c : Nat} {ds : List (Str × D)} (e : Same F H) (h : Rr K ca F H v (.obj c ds)) : ∃ a dx fs, v = .ref a ∧ H a = some (.ins (ca c) dx fs) ∧ fs.map Prod.fst = ds.map Prod.fst ∧ Rps K ca F (fs.map Prod.snd) (ds.map Prod.snd) := by
  rcases h with h | ⟨a, o, rfl, h1, h⟩
  · cases h with
    | obj h k r => exact ⟨_, _, _, rfl, e _ _ h, k, r⟩
  · cases h with
    | obj k r => exact ⟨a, _, _, rfl, h1, k, r⟩
theorem Rrs.one {vs : List V} {d : D} (h : Rrs K ca F H vs [d]) : ∃ v, vs = [v] ∧ Rr K ca F H v d := by
  cases h with
  | cons h t => cases t; exact ⟨_, rfl, h⟩
theorem Rrs.two {vs : List V} {d e : D} (h : Rrs K ca F H vs [d, e]) : ∃ v u, vs = [v, u] ∧ Rr K ca F H v d ∧ Rr K ca F H u e := by
  cases h with
  | cons h t =>
    obtain ⟨u, rfl, h2⟩ := t.one
    exact ⟨_, _, rfl, h, h2⟩
theorem Rrs.nil_of {ds : List D} {vs : List V} (h : Rrs K ca F H vs ds) : vs.length = ds.length := by
  induction h with
  | nil => rfl
  | cons _ _ ih => rw [List.length_cons, List.length_cons, ih]

/-! ### data of the library -/
mutual
theorem Dp.mono (e : Same H H') : ∀ {v : V} {d : PyData}, Dp K H v d → Dp K H' v d
  | _, _, .non => .non
  | _, _, .bl b => .bl b
  | _, _, .int i => .int i
  | _, _, .str x => .str x
  | _, _, .lst h r => .lst (e.seq h) (DpAll.mono e r)
  | _, _, .tup h r => .tup (seqT e h) (DpAll.mono e r)
theorem DpAll.mono (e : Same H H') : ∀ {vs : List V} {ds : List PyData}, DpAll K H vs ds → DpAll K H' vs ds
  | _, _, .nil => .nil
  | _, _, .cons h r => .cons (Dp.mono e h) (DpAll.mono e r)
end
theorem toPys_cons {x : D} {xs : List D} {ps : List PyData} (h : toPys (x :: xs) = some ps) : ∃ p qs, ps = p :: qs ∧ toPy x = some p ∧ toPys xs = some qs := by
  unfold toPys at h
  cases q : toPy x with
  | none => rw [q] at h; cases h
  | some p =>
    rw [q] at h
    cases q2 : toPys xs with
    | none => rw [q2] at h; cases h
    | some es => rw [q2] at h; cases h; exact ⟨p, es, rfl, rfl, rfl⟩
mutual
theorem Rp.dp : ∀ {v : V} {d : D} {p : PyData}, Rp K ca F v d → toPy d = some p → Dp K F v p
  | _, _, p, .non, e => by simp only [toPy, Option.some.injEq] at e; subst e; exact .non
  | _, _, p, .bl b, e => by simp only [toPy, Option.some.injEq] at e; subst e; exact .bl b
  | _, _, p, .int b, e => by simp only [toPy, Option.some.injEq] at e; subst e; exact .int b
  | _, _, p, .str b, e => by simp only [toPy, Option.some.injEq] at e; subst e; exact .str b
  | _, _, p, .tup (ds := ds) h r, e => by
    simp only [toPy] at e
    cases q : toPys ds with
    | none => rw [q] at e; cases e
    | some ps => rw [q] at e; cases e; exact .tup (.inl (.inl h)) (Rps.dps r q)
  | _, _, p, .lst (ds := ds) h r, e => by
    simp only [toPy] at e
    cases q : toPys ds with
    | none => rw [q] at e; cases e
    | some ps => rw [q] at e; cases e; exact .lst (.inl (.inl h)) (Rps.dps r q)
  | _, _, p, .scr h, e => by simp [toPy] at e
  | _, _, p, .wt h r, e => by simp [toPy] at e
  | _, _, p, .dk h k r, e => by simp [toPy] at e
  | _, _, p, .dt h k r, e => by simp [toPy] at e
  | _, _, p, .obj h k r, e => by simp [toPy] at e
theorem Rps.dps : ∀ {vs : List V} {ds : List D} {ps : List PyData}, Rps K ca F vs ds → toPys ds = some ps → DpAll K F vs ps
  | _, _, ps, .nil, e => by simp only [toPys, Option.some.injEq] at e; subst e; exact .nil
  | _, _, ps, .cons h r, e => by
    obtain ⟨p, qs, rfl, e1, e2⟩ := toPys_cons e
    exact .cons (Rp.dp h e1) (Rps.dps r e2)
end
theorem Rr.dp {d : D} {p : PyData} (e : Same F H) (h : Rr K ca F H v d) (q : toPy d = some p) : Dp K H v p := by
  rcases h with h | ⟨a, o, rfl, h1, h⟩
  · exact Dp.mono e (h.dp q)
  · cases h with
    | lst r =>
      rename_i vs ds
      simp only [toPy] at q
      cases z : toPys ds with
      | none => rw [z] at q; cases q
      | some ps => rw [z] at q; cases q; exact .lst (.inl (.inl h1)) (DpAll.mono e (Rps.dps r z))
    | dk _ _ => simp [toPy] at q
    | dt _ _ => simp [toPy] at q
    | obj _ _ => simp [toPy] at q
/-! ### flat data -/
theorem Rp.toV {d : D} {u : V} (h : Rp K ca F v d) (e : toV d = some u) : v = u ∧ flatV v = true := by
  cases h <;> simp only [DV.toV] at e <;> cases e <;> exact ⟨rfl, rfl⟩
theorem Rr.toV {d : D} {u : V} (h : Rr K ca F H v d) (e : toV d = some u) : v = u ∧ flatV v = true := by
  rcases h with h | ⟨a, o, rfl, h1, h⟩
  · exact h.toV e
  · cases h <;> simp [DV.toV] at e
theorem toVs_cons {x : D} {xs : List D} {ps : List V} (h : toVs (x :: xs) = some ps) : ∃ p qs, ps = p :: qs ∧ toV x = some p ∧ toVs xs = some qs := by
  unfold toVs at h
  cases q : toV x with
  | none => rw [q] at h; cases h
  | some p =>
    rw [q] at h
    cases q2 : toVs xs with
    | none => rw [q2] at h; cases h
    | some es => rw [q2] at h; cases h; exact ⟨p, es, rfl, rfl, rfl⟩
theorem Rps.toVs : ∀ {vs us : List V} {ds : List D}, Rps K ca F vs ds → toVs ds = some us → vs = us ∧ vs.all flatV = true
  | _, us, _, .nil, e => by simp only [DV.toVs, Option.some.injEq] at e; subst e; exact ⟨rfl, rfl⟩
  | _, us, _, .cons h r, e => by
    obtain ⟨p, qs, rfl, e1, e2⟩ := toVs_cons e
    obtain ⟨rfl, f1⟩ := h.toV e1
    obtain ⟨rfl, f2⟩ := Rps.toVs r e2
    exact ⟨rfl, by rw [List.all_cons, f1, f2]; rfl⟩
theorem Rps.toInts : ∀ {vs : List V} {ds : List D} {ns : List Int}, Rps K ca F vs ds → toInts ds = some ns → vs = ns.map V.int
  | _, _, ns, .nil, e => by simp only [DV.toInts, Option.some.injEq] at e; subst e; rfl
  | _, _, ns, .cons (d := d) (ds := ds) h r, e => by
    cases d with
    | int i =>
      simp only [DV.toInts] at e
      cases q : DV.toInts ds with
      | none => rw [q] at e; cases e
      | some ms =>
        rw [q] at e
        cases e
        cases h
        rw [List.map_cons, Rps.toInts r q]
    | _ => simp [DV.toInts] at e
theorem Rp.toKey {d : D} {k : Key} (h : Rp K ca F v d) (e : toKey d = some k) : v = kV k := by
  cases h <;> simp only [DV.toKey] at e <;> cases e <;> rfl
theorem Rr.toKey {d : D} {k : Key} (h : Rr K ca F H v d) (e : toKey d = some k) : v = kV k := by
  rcases h with h | ⟨a, o, rfl, h1, h⟩
  · exact h.toKey e
  · cases h <;> simp [DV.toKey] at e
theorem toKeys_cons {x : D} {xs : List D} {ps : List Key} (h : toKeys (x :: xs) = some ps) : ∃ p qs, ps = p :: qs ∧ toKey x = some p ∧ toKeys xs = some qs := by
  unfold toKeys at h
  cases q : toKey x with
  | none => rw [q] at h; cases h
  | some p =>
    rw [q] at h
    cases q2 : toKeys xs with
    | none => rw [q2] at h; cases h
    | some es => rw [q2] at h; cases h; exact ⟨p, es, rfl, rfl, rfl⟩
theorem Rps.toKeys : ∀ {vs : List V} {ds : List D} {ks : List Key}, Rps K ca F vs ds → toKeys ds = some ks → vs = ks.map kV
  | _, _, ks, .nil, e => by simp only [DV.toKeys, Option.some.injEq] at e; subst e; rfl
  | _, _, ks, .cons h r, e => by
    obtain ⟨p, qs, rfl, e1, e2⟩ := toKeys_cons e
    rw [h.toKey e1, Rps.toKeys r e2, List.map_cons]

/-! ### rules: arithmetic -/
theorem ints2_some {f : Int → Int → Option D} {a b d : D} (h : ints2 f a b = some d) : ∃ i j, a = .int i ∧ b = .int j ∧ f i j = some d := by
  unfold ints2 at h
  split at h
  · exact ⟨_, _, rfl, rfl, h⟩
  · cases h

theorem opS2 {o : Op} {R : List V → Hp → VK → Prop} (h1 : ∀ a, op1 o a = none := by intro _; rfl) (h3 : ∀ a b c, opD o [a, b, c] = none := by intro _ _ _; rfl)
    (h : ∀ (F H : Hp) (x y : V) (a b d : D) (Q : VK), Same F H → Rr K ca F H x a → Rr K ca F H y b → op2 o a b = some d → (∀ v F' H', Ext F H F' H' → Rp K ca F' v d → Q v H') → R [x, y] H Q) : OpS K ca o R := by
  intro F H vs ds d Q e r q k
  match ds, r, q with
  | [a, b], r, q =>
    obtain ⟨x, y, rfl, r1, r2⟩ := r.two
    exact h F H x y a b d Q e r1 r2 q k
  | [], r, q => cases q
  | [a], r, q =>
    have q' : op1 o a = some d := q
    rw [h1] at q'
    cases q'
  | _ :: _ :: _ :: _ :: _, r, q => cases q
  | [a, b, c], r, q => rw [h3] at q; cases q
theorem opS1 {o : Op} {R : List V → Hp → VK → Prop} (h2 : ∀ a b, op2 o a b = none) (h3 : ∀ a b c, opD o [a, b, c] = none := by intro _ _ _; rfl)
    (h : ∀ (F H : Hp) (x : V) (a d : D) (Q : VK), Same F H → Rr K ca F H x a → op1 o a = some d → (∀ v F' H', Ext F H F' H' → Rp K ca F' v d → Q v H') → R [x] H Q) : OpS K ca o R := by
  intro F H vs ds d Q e r q k
  match ds, r, q with
  | [a], r, q =>
    obtain ⟨x, rfl, r1⟩ := r.one
    exact h F H x a d Q e r1 q k
  | [], r, q => cases q
  | [a, b], r, q =>
    have q' : op2 o a b = some d := q
    rw [h2] at q'
    cases q'
  | _ :: _ :: _ :: _ :: _, r, q => cases q
  | [a, b, c], r, q => rw [h3] at q; cases q
/-- an operation on ints whose answer is a scalar -/
theorem opI_s {o : Op} {C : Int → Int → Prop} {f : Int → Int → V} (hf : ∀ i j d, arith o i j = some d → C i j ∧ ∀ F, Rp K ca F (f i j) d) (ho : ∀ a b, op2 o a b = ints2 (arith o) a b := by intro _ _; rfl)
    (h1 : ∀ a, op1 o a = none := by intro _; rfl) (h3 : ∀ a b c, opD o [a, b, c] = none := by intro _ _ _; rfl) : OpS K ca o (R2L (rI C f)) :=
  opS2 h1 h3 fun F H x y a b d Q e r1 r2 h k => by
    rw [ho] at h
    obtain ⟨i, j, rfl, rfl, h⟩ := ints2_some h
    obtain ⟨c, q⟩ := hf i j d h
    exact ⟨x, y, rfl, i, j, r1.int, r2.int, c, k _ F H (Ext.refl e) (q F)⟩
theorem opI0_s {o : Op} {f : Int → Int → V} (hf : ∀ i j d, arith o i j = some d → ∀ F, Rp K ca F (f i j) d) (ho : ∀ a b, op2 o a b = ints2 (arith o) a b := by intro _ _; rfl)
    (h1 : ∀ a, op1 o a = none := by intro _; rfl) (h3 : ∀ a b c, opD o [a, b, c] = none := by intro _ _ _; rfl) : OpS K ca o (R2L (rI0 f)) :=
  opS2 h1 h3 fun F H x y a b d Q e r1 r2 h k => by
    rw [ho] at h
    obtain ⟨i, j, rfl, rfl, h⟩ := ints2_some h
    exact ⟨x, y, rfl, i, j, r1.int, r2.int, k _ F H (Ext.refl e) (hf i j d h F)⟩
theorem s_sub : OpS K ca .sub (R2L (rI0 fun i j => .int (i - j))) := opI0_s fun i j d h F => by
  cases (show some (D.int (i - j)) = some d from h); exact .int _
theorem s_mul : OpS K ca .mul (R2L (rI CMul fun i j => .int (i * j))) := opI_s fun i j d h => by
  simp only [arith] at h
  split at h
  · rename_i c
    cases h
    refine ⟨?_, fun F => .int _⟩
    rcases c with c | c
    · exact .inl (by omega)
    · exact .inr (by omega)
  · cases h
theorem s_fdiv : OpS K ca .fdiv (R2L (rI CDivN fun i j => .int (i.fdiv j))) := opI_s fun i j d h => by
  simp only [arith] at h
  split at h
  · rename_i c
    cases h
    exact ⟨c, fun F => .int _⟩
  · cases h
theorem s_mod : OpS K ca .mod (R2L (rI (fun _ j => j ≠ 0) fun i j => .int (i.fmod j))) := opI_s fun i j d h => by
  simp only [arith] at h
  split at h
  · rename_i c
    cases h
    exact ⟨c, fun F => .int _⟩
  · cases h
theorem s_pow : OpS K ca .pow (R2L (rI CPow fun i j => .int (i ^ j.toNat))) := opI_s fun i j d h => by
  simp only [arith] at h
  split at h
  · rename_i c
    cases h
    exact ⟨c, fun F => .int _⟩
  · cases h
theorem s_lt : OpS K ca .lt (R2L (rI0 fun i j => .bl (decide (i < j)))) := opI0_s fun i j d h F => by
  cases (show some (D.bl (decide (i < j))) = some d from h); exact .bl _
theorem s_le : OpS K ca .le (R2L (rI0 fun i j => .bl (decide (i ≤ j)))) := opI0_s fun i j d h F => by
  cases (show some (D.bl (decide (i ≤ j))) = some d from h); exact .bl _
theorem s_gt : OpS K ca .gt (R2L (rI0 fun i j => .bl (decide (j < i)))) := opI0_s fun i j d h F => by
  cases (show some (D.bl (decide (j < i))) = some d from h); exact .bl _
theorem s_ge : OpS K ca .ge (R2L (rI0 fun i j => .bl (decide (j ≤ i)))) := opI0_s fun i j d h F => by
  cases (show some (D.bl (decide (j ≤ i))) = some d from h); exact .bl _
/-- + of ints, of texts -/
def rAddD : R2 := fun x y H Q => (∃ i j, x = .int i ∧ y = .int j ∧ Q (.int (i + j)) H) ∨ (∃ i j, x = .str i ∧ y = .str j ∧ i.length + j.length ≤ sizeLine ∧ Q (.str (i ++ j)) H)
theorem op_addD {X : Cx} : OpR X (binaryOp .Add) rAddD := OpR.or op_add op_add_str
theorem s_add : OpS K ca .add (R2L rAddD) := opS2 (h := fun F H x y a b d Q e r1 r2 h k => by
  have h' : catD a b = some d := h
  unfold catD at h'
  split at h'
  · split at h'
    · cases h'
      exact ⟨x, y, rfl, .inr ⟨_, _, r1.str, r2.str, lim1 (by assumption), k _ F H (Ext.refl e) (.str _)⟩⟩
    · cases h'
  · cases h'
    exact ⟨x, y, rfl, .inl ⟨_, _, r1.int, r2.int, k _ F H (Ext.refl e) (.int _)⟩⟩
  · cases h')
theorem s_neg : OpS K ca .neg (R1L (rU fun i => .int (-i))) := opS1 (fun a b => by cases a <;> cases b <;> rfl) (h := fun F H x a d Q e r h k => by
  cases a with
  | int i =>
    cases (show some (D.int (-i)) = some d from h)
    exact ⟨x, rfl, i, r.int, k _ F H (Ext.refl e) (.int _)⟩
  | _ => cases h)
/-! ### == -/
theorem eqD_some {a b : D} {r : Bool} (h : eqD a b = some r) : (∃ i j, a = .int i ∧ b = .int j ∧ r = (i == j)) ∨ (∃ i j, a = .str i ∧ b = .str j ∧ r = (i == j)) ∨ (∃ i j, a = .bl i ∧ b = .bl j ∧ r = (i == j)) ∨ ∃ p q, toPy a = some p ∧ toPy b = some q ∧ SeqAt.shaped p = true ∧ SeqAt.shaped q = true ∧ r = PyData.eqv p q := by
  unfold eqD at h
  split at h
  · cases h
    exact .inr (.inr (.inl ⟨_, _, rfl, rfl, rfl⟩))
  · cases h
    exact .inl ⟨_, _, rfl, rfl, rfl⟩
  · cases h
    exact .inr (.inl ⟨_, _, rfl, rfl, rfl⟩)
  · split at h
    · rename_i p q e1 e2
      split at h
      · rename_i c
        cases h
        exact .inr (.inr (.inr ⟨p, q, e1, e2, c.1, c.2, rfl⟩))
      · cases h
    · cases h
def rEqA (K : PySem.W.Frag) : R2 := fun x y H Q => rEq x y H Q ∨ rEqD K x y H Q
def rNeA (K : PySem.W.Frag) : R2 := fun x y H Q => rNe x y H Q ∨ rNeD K x y H Q
theorem op_eqA {X : Cx} (hu : X.A.units + 64 < cLine) : OpR X (compareOp .Eq) (rEqA X.K) := OpR.or op_eq (op_eqD hu)
theorem op_neA {X : Cx} (hu : X.A.units + 64 < cLine) : OpR X (compareOp .NotEq) (rNeA X.K) := OpR.or op_ne (op_neD hu)
theorem s_eq : OpS K ca .eq (R2L (rEqA K)) := opS2 (h := fun F H x y a b d Q e r1 r2 h k => by
  have h' : (eqD a b).map D.bl = some d := h
  cases q : eqD a b with
  | none => rw [q] at h'; cases h'
  | some r =>
    rw [q] at h'
    cases h'
    have k' := k (.bl r) F H (Ext.refl e) (.bl _)
    refine ⟨x, y, rfl, ?_⟩
    rcases eqD_some q with ⟨i, j, rfl, rfl, rfl⟩ | ⟨i, j, rfl, rfl, rfl⟩ | ⟨i, j, rfl, rfl, rfl⟩ | ⟨p, q', e1, e2, s1, s2, rfl⟩
    · rw [r1.int, r2.int]; exact .inl ⟨rfl, by rw [dec_int]; exact k'⟩
    · rw [r1.str, r2.str]; exact .inl ⟨rfl, by rw [dec_str]; exact k'⟩
    · rw [r1.bl, r2.bl]; exact .inl ⟨rfl, by rw [dec_bl]; exact k'⟩
    · exact .inr ⟨p, q', r1.dp e e1, r2.dp e e2, s1, s2, k'⟩)
theorem s_ne : OpS K ca .ne (R2L (rNeA K)) := opS2 (h := fun F H x y a b d Q e r1 r2 h k => by
  have h' : (eqD a b).map (fun x => D.bl (!x)) = some d := h
  cases q : eqD a b with
  | none => rw [q] at h'; cases h'
  | some r =>
    rw [q] at h'
    cases h'
    have k' := k (.bl (!r)) F H (Ext.refl e) (.bl _)
    refine ⟨x, y, rfl, ?_⟩
    rcases eqD_some q with ⟨i, j, rfl, rfl, rfl⟩ | ⟨i, j, rfl, rfl, rfl⟩ | ⟨i, j, rfl, rfl, rfl⟩ | ⟨p, q', e1, e2, s1, s2, rfl⟩
    · rw [r1.int, r2.int]; exact .inl ⟨rfl, by rw [dec_int]; exact k'⟩
    · rw [r1.str, r2.str]; exact .inl ⟨rfl, by rw [dec_str]; exact k'⟩
    · rw [r1.bl, r2.bl]; exact .inl ⟨rfl, by rw [dec_bl]; exact k'⟩
    · exact .inr ⟨p, q', r1.dp e e1, r2.dp e e2, s1, s2, k'⟩)
theorem Rr.nonV {d : D} (h : Rr K ca F H v d) : decide (v = .non) = (match d with
    | .non => true
    | _ => false) := by
  rcases h with h | ⟨a, o, rfl, h1, h⟩
  · cases h <;> simp
  · cases h <;> simp
theorem s_isN : OpS K ca .isN (R1L fun x H Q => Q (.bl (decide (x = .non))) H) := opS1 (fun a b => by cases a <;> cases b <;> rfl) (h := fun F H x a d Q e r h k => by
  refine ⟨x, rfl, ?_⟩
  dsimp only
  rw [r.nonV]
  cases a <;> cases h <;> exact k _ F H (Ext.refl e) (.bl _))
theorem s_notN : OpS K ca .notN (R1L fun x H Q => Q (.bl (!decide (x = .non))) H) := opS1 (fun a b => by cases a <;> cases b <;> rfl) (h := fun F H x a d Q e r h k => by
  refine ⟨x, rfl, ?_⟩
  dsimp only
  rw [r.nonV]
  cases a <;> cases h <;> exact k _ F H (Ext.refl e) (.bl _))
/-! ### in -/
def rInSign (neg : Bool) : R2 := fun x y H Q => ∃ (c : Nat) (z : Str), x = .str ⟨#[c]⟩ ∧ y = .str z ∧ Q (.bl (if neg then !decide (c ∈ z.cps.toList) else decide (c ∈ z.cps.toList))) H
def rInDict (neg : Bool) : R2 := fun x y H Q => ∃ a o, y = .ref a ∧ DGet H a x o ∧ Q (.bl (if neg then !o.isSome else o.isSome)) H
def rInA (K : PySem.W.Frag) (neg : Bool) : R2 := fun x y H Q => rInSign neg x y H Q ∨ rIn K neg x y H Q ∨ rInDict neg x y H Q
theorem op_inA {X : Cx} (hu : X.A.units + 1 < cLine) : OpR X (compareOp .In) (rInA X.K false) := by
  intro pins s σ H x y v u Q I rx ry h
  rcases h with ⟨c, z, e1, e2, q⟩ | h | ⟨a, o, rfl, g, q⟩
  · exact op_in_sign pins s σ H x y v u Q I rx ry ⟨c, z, e1, e2, q⟩
  · exact op_in_seq pins s σ H x y v u Q I rx ry h
  · cases ry
    exact d_in hu I g rx fun s' I' => ⟨.bl _, H, I', rfl, q⟩
theorem op_notInA {X : Cx} (hu : X.A.units + 1 < cLine) : OpR X (compareOp .NotIn) (rInA X.K true) := by
  intro pins s σ H x y v u Q I rx ry h
  rcases h with ⟨c, z, e1, e2, q⟩ | h | ⟨a, o, rfl, g, q⟩
  · exact op_notIn_sign pins s σ H x y v u Q I rx ry ⟨c, z, e1, e2, q⟩
  · exact op_notIn_seq pins s σ H x y v u Q I rx ry h
  · cases ry
    exact d_notIn hu I g rx fun s' I' => ⟨.bl _, H, I', rfl, q⟩
theorem lookK_some {κ : Type} [DecidableEq κ] {k : κ} : ∀ {kvs : List (κ × V)} {ds : List (κ × D)}, kvs.map Prod.fst = ds.map Prod.fst → Rps K ca F (kvs.map Prod.snd) (ds.map Prod.snd) →
    (lookK ds k = none ∧ valV kvs k = none) ∨ ∃ d v, lookK ds k = some d ∧ valV kvs k = some v ∧ Rp K ca F v d
  | [], [], _, _ => .inl ⟨rfl, rfl⟩
  | [], _ :: _, h, _ => by cases h
  | _ :: _, [], h, _ => by cases h
  | (k1, v1) :: kvs, (k2, d1) :: ds, h, r => by
    have h' : k1 :: kvs.map Prod.fst = k2 :: ds.map Prod.fst := h
    injection h' with e1 e2
    subst e1
    have r' : Rps K ca F (v1 :: kvs.map Prod.snd) (d1 :: ds.map Prod.snd) := r
    cases r' with
    | cons r1 r2 =>
      by_cases q : k1 = k
      · refine .inr ⟨d1, v1, ?_, valV_pos q, r1⟩
        simp [lookK, q]
      · have ih := lookK_some (k := k) e2 r2
        rw [valV_neg (show ¬ (k1, v1).1 = k from q)]
        have e3 : lookK ((k1, d1) :: ds) k = lookK ds k := by simp [lookK, q]
        rw [e3]
        exact ih
theorem lookK_isSome {κ : Type} [DecidableEq κ] {k : κ} {kvs : List (κ × V)} {ds : List (κ × D)} (h : kvs.map Prod.fst = ds.map Prod.fst) (r : Rps K ca F (kvs.map Prod.snd) (ds.map Prod.snd)) : (lookK ds k).isSome = (valV kvs k).isSome := by
  rcases lookK_some (k := k) h r with ⟨e1, e2⟩ | ⟨d, v, e1, e2, _⟩ <;> rw [e1, e2] <;> rfl
/-- what a dict tells at a key -/
theorem dGet_some {x y : V} {a b : D} {o : Option D} (e : Same F H) (r1 : Rr K ca F H x a) (r2 : Rr K ca F H y b) (h : dGet a b = some o) : ∃ p o', x = .ref p ∧ DGet H p y o' ∧ ((o = none ∧ o' = none) ∨ ∃ d v, o = some d ∧ o' = some v ∧ Rp K ca F v d) := by
  unfold dGet at h
  split at h
  · obtain ⟨p, ks, rfl, h1, h2, h3⟩ := r1.dk e
    cases q : toKey b with
    | none => rw [q] at h; cases h
    | some kk =>
      rw [q] at h
      cases h
      have ey := r2.toKey q
      subst ey
      exact ⟨p, _, rfl, DGet.k h1, (lookK_some h2 h3)⟩
  · rename_i kvs ks
    obtain ⟨p, kvs', rfl, h1, h2, h3⟩ := r1.dt e
    cases q : toKeys ks with
    | none => rw [q] at h; cases h
    | some kk =>
      rw [q] at h
      cases h
      obtain ⟨b', vs, rfl, h4, h5, _⟩ := r2.tup
      have ev := h5.toKeys q
      subst ev
      exact ⟨p, _, rfl, DGet.t h1 (e _ _ h4), (lookK_some h2 h3)⟩
  · cases h
theorem inSeq {neg : Bool} {x : V} {a : D} {p : Addr} {vs : List V} {ds : List D} {r : Bool} {Q : VK} (r1 : Rr K ca F H x a) (hs : SqL K H p vs ∨ SqT K H p vs) (rs : Rps K ca F vs ds)
    (h : (match toV a, toVs ds with
      | some v, some vs => some (inV v vs)
      | _, _ => none) = some r) (k : Q (.bl (if neg then !r else r)) H) : rIn K neg x (.ref p) H Q := by
  cases q : toV a with
  | none => rw [q] at h; cases h
  | some u =>
    cases q2 : toVs ds with
    | none => rw [q, q2] at h; cases h
    | some us =>
      rw [q, q2] at h
      cases h
      obtain ⟨rfl, f1⟩ := r1.toV q
      obtain ⟨rfl, f2⟩ := rs.toVs q2
      exact ⟨p, _, rfl, hs, f1, f2, k⟩
theorem inA_of {neg : Bool} {x y : V} {a b : D} {r : Bool} {Q : VK} (e : Same F H) (r1 : Rr K ca F H x a) (r2 : Rr K ca F H y b) (h : inD a b = some r) (k : Q (.bl (if neg then !r else r)) H) : rInA K neg x y H Q := by
  unfold inD at h
  split at h
  · rename_i s1 s2
    split at h
    · rename_i c hc
      cases h
      refine .inl ⟨c, _, ?_, r2.str, k⟩
      rw [r1.str]
      congr 1
      obtain ⟨⟨l⟩⟩ := s1
      have hc' : l = [c] := hc
      rw [hc']
    · cases h
  · obtain ⟨p, vs, rfl, h4, h5, _⟩ := r2.tup
    exact .inr (.inl (inSeq r1 (.inr (.inl (.inl (e _ _ h4)))) h5 h k))
  · obtain ⟨p, vs, rfl, h4, h5⟩ := r2.lst e
    exact .inr (.inl (inSeq r1 (.inl (.inl (.inl h4))) h5 h k))
  · obtain ⟨p, vs, rfl, h4, h5⟩ := r2.wt
    exact .inr (.inl (inSeq r1 (.inr (seqT e h4)) h5 h k))
  · cases q : dGet _ a with
    | none => rw [q] at h; cases h
    | some o =>
      rw [q] at h
      cases h
      obtain ⟨p, o', rfl, g, z⟩ := dGet_some e r2 r1 q
      refine .inr (.inr ⟨p, o', rfl, g, ?_⟩)
      have e2 : o.isSome = o'.isSome := by
        rcases z with ⟨rfl, rfl⟩ | ⟨d, v, rfl, rfl, _⟩ <;> rfl
      rw [← e2]
      exact k
  · cases q : dGet _ a with
    | none => rw [q] at h; cases h
    | some o =>
      rw [q] at h
      cases h
      obtain ⟨p, o', rfl, g, z⟩ := dGet_some e r2 r1 q
      refine .inr (.inr ⟨p, o', rfl, g, ?_⟩)
      have e2 : o.isSome = o'.isSome := by
        rcases z with ⟨rfl, rfl⟩ | ⟨d, v, rfl, rfl, _⟩ <;> rfl
      rw [← e2]
      exact k
  · cases h
theorem s_in : OpS K ca .isIn (R2L (rInA K false)) := opS2 (h := fun F H x y a b d Q e r1 r2 h k => by
  have h' : (inD a b).map D.bl = some d := h
  cases q : inD a b with
  | none => rw [q] at h'; cases h'
  | some r =>
    rw [q] at h'
    cases h'
    exact ⟨x, y, rfl, inA_of e r1 r2 q (k (.bl r) F H (Ext.refl e) (.bl _))⟩)
theorem s_notIn : OpS K ca .notIn (R2L (rInA K true)) := opS2 (h := fun F H x y a b d Q e r1 r2 h k => by
  have h' : (inD a b).map (fun x => D.bl (!x)) = some d := h
  cases q : inD a b with
  | none => rw [q] at h'; cases h'
  | some r =>
    rw [q] at h'
    cases h'
    exact ⟨x, y, rfl, inA_of e r1 r2 q (k (.bl (!r)) F H (Ext.refl e) (.bl _))⟩)
/-! ### len, abs, int, sum, tuple(..), subscripts, slices -/
theorem Rr.seq {d : D} {ds : List D} (e : Same F H) (h : Rr K ca F H v d) (hd : d = .lst ds ∨ d = .tup ds ∨ d = .wt ds) : ∃ a vs, v = .ref a ∧ (SqL K H a vs ∨ SqT K H a vs) ∧ Rps K ca F vs ds := by
  rcases hd with rfl | rfl | rfl
  · obtain ⟨p, vs, rfl, h4, h5⟩ := h.lst e
    exact ⟨p, vs, rfl, .inl (.inl (.inl h4)), h5⟩
  · obtain ⟨p, vs, rfl, h4, h5, _⟩ := h.tup
    exact ⟨p, vs, rfl, .inr (.inl (.inl (e _ _ h4))), h5⟩
  · obtain ⟨p, vs, rfl, h4, h5⟩ := h.wt
    exact ⟨p, vs, rfl, .inr (seqT e h4), h5⟩
def rLenA (K : PySem.W.Frag) : List V → Hp → VK → Prop := fun xs H Q => (∃ p ys, xs = [.ref p] ∧ (SqL K H p ys ∨ SqT K H p ys) ∧ Q (.int ys.length) H) ∨ (∃ z, xs = [.str z] ∧ z.length ≤ sizeLine ∧ Q (.int z.length) H) ∨ ∃ p kvs, xs = [.ref p] ∧ H p = some (.dK kvs) ∧ Q (.int (kvs.length : Nat)) H
theorem call_lenA {X : Cx} : CallR X (.builtin "len") (rLenA X.K) := by
  intro pins s σ H xs us Q I r h
  rcases h with h | h | ⟨p, kvs, rfl, h1, q⟩
  · exact call_len_seq pins s σ H xs us Q I r h
  · exact call_len_str pins s σ H xs us Q I r h
  · obtain ⟨u, rfl, ru⟩ := r.one
    cases ru
    exact d_len I (.inl h1) fun t s' I' => ⟨.int _, H, I', ⟨t, rfl⟩, q⟩
theorem s_len : OpS K ca .len (rLenA K) := opS1 (fun a b => by cases a <;> cases b <;> rfl) (h := fun F H x a d Q e r h k => by
  have h' : (lenD a).map (fun n => D.int (n : Nat)) = some d := h
  unfold lenD at h'
  split at h'
  · split at h'
    · cases h'
      rw [r.str]
      exact .inr (.inl ⟨_, rfl, lim1 (by assumption), k _ F H (Ext.refl e) (.int _)⟩)
    · cases h'
  · cases h'
    obtain ⟨p, vs, rfl, h4, h5⟩ := r.seq e (.inl rfl)
    exact .inl ⟨p, vs, rfl, h4, by rw [h5.length]; exact k _ F H (Ext.refl e) (.int _)⟩
  · cases h'
    obtain ⟨p, vs, rfl, h4, h5⟩ := r.seq e (.inr (.inl rfl))
    exact .inl ⟨p, vs, rfl, h4, by rw [h5.length]; exact k _ F H (Ext.refl e) (.int _)⟩
  · cases h'
    obtain ⟨p, kvs, rfl, h4, h5, h6⟩ := r.dk e
    have e2 := congrArg List.length h5
    rw [List.length_map, List.length_map] at e2
    exact .inr (.inr ⟨p, kvs, rfl, h4, by rw [e2]; exact k _ F H (Ext.refl e) (.int _)⟩)
  · cases h')
theorem s_abs : OpS K ca .abs (fun xs H Q => ∃ i, xs = [.int i] ∧ Q (.int (if i < 0 then -i else i)) H) := opS1 (fun a b => by cases a <;> cases b <;> rfl) (h := fun F H x a d Q e r h k => by
  cases a with
  | int i => cases h; rw [r.int]; exact ⟨i, rfl, k _ F H (Ext.refl e) (.int _)⟩
  | _ => cases h)
theorem s_int : OpS K ca .int (fun xs H Q => (∃ i, xs = [.int i] ∧ Q (.int i) H) ∨ ∃ k, xs = [.bl k] ∧ Q (.int (if k then 1 else 0)) H) := opS1 (fun a b => by cases a <;> cases b <;> rfl) (h := fun F H x a d Q e r h k => by
  cases a with
  | int i => cases h; rw [r.int]; exact .inl ⟨i, rfl, k _ F H (Ext.refl e) (.int _)⟩
  | bl i => cases h; rw [r.bl]; exact .inr ⟨i, rfl, k _ F H (Ext.refl e) (.int _)⟩
  | _ => cases h)
theorem s_sum : OpS K ca .sum (rSum K) := opS1 (fun a b => by cases a <;> cases b <;> rfl) (h := fun F H x a d Q e r h k => by
  cases a with
  | lst ds =>
    have h' : (toInts ds).map (fun ns => D.int ns.sum) = some d := h
    cases q : toInts ds with
    | none => rw [q] at h'; cases h'
    | some ns =>
      rw [q] at h'
      cases h'
      obtain ⟨p, vs, rfl, h4, h5⟩ := r.lst e
      have ev := h5.toInts q
      subst ev
      exact ⟨p, ns, rfl, .inl (.inl h4), k _ F H (Ext.refl e) (.int _)⟩
  | _ => cases h)
theorem s_tuple : OpS K ca .tuple (fun xs H Q => ∃ p ys, xs = [.ref p] ∧ ((SqL K H p ys ∧ ∀ l, H l = none → Q (.ref l) (upd H l (.tup ys))) ∨ (SqT K H p ys ∧ Q (.ref p) H))) := opS1 (fun a b => by cases a <;> cases b <;> rfl) (h := fun F H x a d Q e r h k => by
  cases a with
  | lst ds =>
    cases h
    obtain ⟨p, vs, rfl, h4, h5⟩ := r.lst e
    refine ⟨p, vs, rfl, .inl ⟨.inl (.inl h4), fun l hl => ?_⟩⟩
    have x := Ext.new (o := HO.tup vs) e hl
    exact k _ _ _ x (.tup upd_same (h5.mono x.ff))
  | tup ds =>
    cases h
    obtain ⟨p, vs, rfl, h4, h5, h6⟩ := r.tup
    exact ⟨p, vs, rfl, .inr ⟨.inl (.inl (e _ _ h4)), k _ F H (Ext.refl e) h6⟩⟩
  | _ => cases h)
theorem atI_rps {vs : List V} {ds : List D} {i : Int} {d : D} (r : Rps K ca F vs ds) (h : atI ds i = some d) : ∃ v, atI vs i = some v ∧ Rp K ca F v d := by
  unfold atI at h ⊢
  rw [r.length]
  cases q : ixN ds.length i with
  | none => rw [q] at h; cases h
  | some j =>
    rw [q] at h
    exact r.get h
theorem s_idx : OpS K ca .idx (R2L (rIx K)) := opS2 (h := fun F H x y a b d Q e r1 r2 h k => by
  have h' : idxD a b = some d := h
  unfold idxD at h'
  split at h'
  · obtain ⟨p, vs, rfl, h4, h5⟩ := r1.lst e
    obtain ⟨v, h6, h7⟩ := atI_rps h5 h'
    exact ⟨_, y, rfl, .inl ⟨p, vs, _, v, rfl, r2.int, .inl (.inl h4), h6, k _ F H (Ext.refl e) h7⟩⟩
  · obtain ⟨p, vs, rfl, h4, h5, _⟩ := r1.tup
    obtain ⟨v, h6, h7⟩ := atI_rps h5 h'
    exact ⟨_, y, rfl, .inr (.inl ⟨p, vs, _, v, rfl, r2.int, .inl (.inl (e _ _ h4)), h6, k _ F H (Ext.refl e) h7⟩)⟩
  · obtain ⟨p, vs, rfl, h4, h5⟩ := r1.wt
    obtain ⟨v, h6, h7⟩ := atI_rps h5 h'
    exact ⟨_, y, rfl, .inr (.inl ⟨p, vs, _, v, rfl, r2.int, seqT e h4, h6, k _ F H (Ext.refl e) h7⟩)⟩
  · split at h'
    · rename_i z i hz
      cases q : atI z.cps.toList i with
      | none => rw [q] at h'; cases h'
      | some c =>
        rw [q] at h'
        cases h'
        exact ⟨x, y, rfl, .inr (.inr ⟨z, i, c, r1.str, r2.int, lim1 hz, q, k _ F H (Ext.refl e) (.str _)⟩)⟩
    · cases h'
  · cases h')
end
end DV


set_option maxRecDepth 100000
set_option maxHeartbeats 4000000
/-! DV5: tests, displays, fields, slices, methods of lists. -/
namespace DV
open PySem PySem.Spec PyProof.Rows L2

section
variable {K : PySem.W.Frag} {ca : Nat → Addr} {T : Tab} {calls : Calls} {W : WX} {g : Gh} {F F' H H' : Hp} {σ : L2.St} {env env' : Ce}
theorem Rr.truth {v : V} {d : D} {b : Bool} (e : Same F H) (h : Rr K ca F H v d) (q : truD d = some b) : TruV K v H b := by
  unfold truD at q
  split at q
  · cases q; rw [h.non]; rfl
  · cases q; rw [h.bl]; rfl
  · cases q; rw [h.int]; rfl
  · split at q
    · cases q; rw [h.str]; exact ⟨lim1 (by assumption), rfl⟩
    · cases q
  · cases q
    obtain ⟨a, vs, rfl, h1, h2⟩ := h.lst e
    refine .inl ⟨vs, .inl (.inl h1), ?_⟩
    cases h2 <;> rfl
  · cases q
    obtain ⟨a, vs, rfl, h1, h2, _⟩ := h.tup
    refine .inr (.inl ⟨vs, .inl (.inl (e _ _ h1)), ?_⟩)
    cases h2 <;> rfl
  · cases q
    obtain ⟨a, kvs, rfl, h1, h2, h3⟩ := h.dk e
    refine .inr (.inr ⟨kvs, h1, ?_⟩)
    rename_i ds
    cases kvs with
    | nil => cases ds with
      | nil => rfl
      | cons _ _ => cases h2
    | cons _ _ => cases ds with
      | nil => cases h2
      | cons _ _ => rfl
  · cases q
theorem post_bool {R : D → Ce → Prop} {k0 k1 : Ce → Option (XR D)} {d : D} (h : Post K ca g σ W R (boolX k0 k1 d env)) : ∃ b, d = .bl b ∧ Post K ca g σ W R (if b = true then k1 env else k0 env) := by
  unfold boolX at h
  split at h
  · exact ⟨false, rfl, h⟩
  · exact ⟨true, rfl, h⟩
  · exact h.elim
theorem tT_and {a b : EC} {Q : Bool → Hp → Prop} (h : tT K ca T calls W (.and a b) σ H Q) : tAnd (tT K ca T calls W a) (tT K ca T calls W b) σ H Q := by
  obtain ⟨g, F, env, s, k⟩ := h
  refine ⟨g, F, env, s, Post.mono (fun d env1 h1 => ?_) (post_bind k)⟩
  obtain ⟨c, rfl, h2⟩ := post_bool h1
  refine ⟨c, rfl, fun F1 H1 s1 f1 => ?_⟩
  cases c with
  | true => exact ⟨g, F1, env1, s1, Post.mono (fun d env2 ⟨b, e, k2⟩ => ⟨b, e, fun F2 H2 s2 f2 => k2 F2 H2 s2 (f1.trans f2)⟩) h2⟩
  | false =>
    obtain ⟨b, e, k2⟩ := h2
    cases e
    exact k2 F1 H1 s1 f1
theorem tT_or {a b : EC} {Q : Bool → Hp → Prop} (h : tT K ca T calls W (.or a b) σ H Q) : tOr (tT K ca T calls W a) (tT K ca T calls W b) σ H Q := by
  obtain ⟨g, F, env, s, k⟩ := h
  refine ⟨g, F, env, s, Post.mono (fun d env1 h1 => ?_) (post_bind k)⟩
  obtain ⟨c, rfl, h2⟩ := post_bool h1
  refine ⟨c, rfl, fun F1 H1 s1 f1 => ?_⟩
  cases c with
  | false => exact ⟨g, F1, env1, s1, Post.mono (fun d env2 ⟨b, e, k2⟩ => ⟨b, e, fun F2 H2 s2 f2 => k2 F2 H2 s2 (f1.trans f2)⟩) h2⟩
  | true =>
    obtain ⟨b, e, k2⟩ := h2
    cases e
    exact k2 F1 H1 s1 f1
theorem tE_and {a b : EC} {Q : VK} (h : tE K ca T calls W (.and a b) σ H Q) : tAndV (tE K ca T calls W a) (tE K ca T calls W b) σ H Q := by
  obtain ⟨g, F, env, s, k⟩ := h
  refine ⟨g, F, env, s, Post.mono (fun d env1 h1 v F1 H1 s1 f1 r => ?_) (post_bind k)⟩
  obtain ⟨c, rfl, h2⟩ := post_bool h1
  cases r
  refine ⟨c, rfl, ?_⟩
  cases c with
  | true => exact ⟨g, F1, env1, s1, Post.mono (fun d env2 k2 v F2 H2 s2 f2 r2 => k2 v F2 H2 s2 (f1.trans f2) r2) h2⟩
  | false => exact h2 _ F1 H1 s1 f1 (.bl false)
theorem tE_or {a b : EC} {Q : VK} (h : tE K ca T calls W (.or a b) σ H Q) : tOrV (tE K ca T calls W a) (tE K ca T calls W b) σ H Q := by
  obtain ⟨g, F, env, s, k⟩ := h
  refine ⟨g, F, env, s, Post.mono (fun d env1 h1 v F1 H1 s1 f1 r => ?_) (post_bind k)⟩
  obtain ⟨c, rfl, h2⟩ := post_bool h1
  cases r
  refine ⟨c, rfl, ?_⟩
  cases c with
  | false => exact ⟨g, F1, env1, s1, Post.mono (fun d env2 k2 v F2 H2 s2 f2 r2 => k2 v F2 H2 s2 (f1.trans f2) r2) h2⟩
  | true => exact h2 _ F1 H1 s1 f1 (.bl true)
theorem tE_ifx {c a b : EC} {Q : VK} (h : tE K ca T calls W (.ifx c a b) σ H Q) : tIf (tT K ca T calls W c) (tE K ca T calls W a) (tE K ca T calls W b) σ H Q := by
  obtain ⟨g, F, env, s, k⟩ := h
  refine ⟨g, F, env, s, Post.mono (fun d env1 h1 => ?_) (post_bind k)⟩
  obtain ⟨c, rfl, h2⟩ := post_bool h1
  refine ⟨c, rfl, fun F1 H1 s1 f1 => ?_⟩
  cases c with
  | true => exact ⟨g, F1, env1, s1, Post.mono (fun d env2 k2 v F2 H2 s2 f2 r2 => k2 v F2 H2 s2 (f1.trans f2) r2) h2⟩
  | false => exact ⟨g, F1, env1, s1, Post.mono (fun d env2 k2 v F2 H2 s2 f2 r2 => k2 v F2 H2 s2 (f1.trans f2) r2) h2⟩
theorem tT_not {as : EC} {Q : Bool → Hp → Prop} (h : tT K ca T calls W (.op .not (.e as .nil)) σ H Q) : tNot (tT K ca T calls W as) σ H Q := by
  obtain ⟨g, F, env, s, k⟩ := h
  have k1 := post_bind (post_bind k)
  refine ⟨g, F, env, s, Post.mono (fun d env1 h1 => ?_) k1⟩
  have h2 := post_bind h1
  have h3 : Post K ca g σ W (fun d env' => ∃ b, d = .bl b ∧ ∀ F' H', StOk K ca g F' H' σ env' → Same F F' → Q b H') (okO (op1 .not d) env1) := h2
  obtain ⟨d2, e, b, rfl, k2⟩ := post_okO h3
  cases d with
  | bl c => cases e; exact ⟨c, rfl, k2⟩
  | _ => cases e
theorem tE_not {as : EC} {Q : VK} (h : tE K ca T calls W (.op .not (.e as .nil)) σ H Q) : tNotV (tE K ca T calls W as) σ H Q := by
  obtain ⟨g, F, env, s, k⟩ := h
  have k1 := post_bind (post_bind k)
  refine ⟨g, F, env, s, Post.mono (fun d env1 h1 v F1 H1 s1 f1 r => ?_) k1⟩
  have h2 := post_bind h1
  have h3 : Post K ca g σ W (fun d env' => ∀ v F' H', StOk K ca g F' H' σ env' → Same F F' → Rp K ca F' v d → Q v H') (okO (op1 .not d) env1) := h2
  obtain ⟨d2, e, k2⟩ := post_okO h3
  cases d with
  | bl c => cases e; cases r; exact ⟨c, rfl, k2 _ F1 H1 s1 f1 (.bl _)⟩
  | _ => cases e
/-- a op b op2 c -/
theorem tE_chain {p q : Op} {r r' : R2} {a b c : EC} {Q : VK} (hp : OpS K ca p (R2L r)) (hq : OpS K ca q (R2L r')) (h : tE K ca T calls W (.chain p q a b c) σ H Q) :
    tChain r r' (tE K ca T calls W a) (tE K ca T calls W b) (tE K ca T calls W c) σ H Q := by
  obtain ⟨g, F, env, s, k⟩ := h
  refine ⟨g, F, env, s, Post.mono (fun x env1 h1 vx F1 H1 s1 f1 r1 => ?_) (post_bind k)⟩
  refine ⟨g, F1, env1, s1, Post.mono (fun y env2 h2 vy F2 H2 s2 f2 r2 => ?_) (post_bind h1)⟩
  cases e : op2 p x y with
  | none => rw [e] at h2; exact h2.elim
  | some d =>
    rw [e] at h2
    obtain ⟨x', y', e', z⟩ := hp F2 H2 [vx, vy] [x, y] d (fun z H3 => ∃ k, z = .bl k ∧ (if k = true then tE K ca T calls W c σ H3 fun w' H4 => r' vy w' H4 Q else Q (.bl false) H3)) s2.fh
      (.cons (.inl (r1.mono f2)) (.cons (.inl r2) .nil)) e (fun v F3 H3 ext rv => by
        cases d with
        | bl k =>
          cases rv
          refine ⟨k, rfl, ?_⟩
          have s3 := s2.ext ext
          cases k with
          | true =>
            refine ⟨g, F3, env2, s3, Post.mono (fun w env3 h3 vw F4 H4 s4 f4 r4 => ?_) (post_bind h2)⟩
            obtain ⟨d4, e4, k4⟩ := post_okO h3
            obtain ⟨y2, w2, e5, z5⟩ := hq F4 H4 [vy, vw] [y, w] d4 Q s4.fh (.cons (.inl (r2.mono (ext.ff.trans f4))) (.cons (.inl r4) .nil)) e4 fun v F5 H5 ext5 rv5 =>
              k4 v F5 H5 (s4.ext ext5) (f1.trans (f2.trans (ext.ff.trans (f4.trans ext5.ff)))) rv5
            injection e5 with e6 e7
            injection e7 with e7 _
            cases e6
            cases e7
            exact z5
          | false => exact h2 _ F3 H3 s3 (f1.trans (f2.trans ext.ff)) (.bl false)
        | _ => exact h2.elim)
    injection e' with e6 e7
    injection e7 with e7 _
    cases e6
    cases e7
    exact z
theorem tE_tup {as : ACs} {Q : VK} (h : tE K ca T calls W (.tup as) σ H Q) : tTup (tAs K ca T calls W as) σ H Q := by
  obtain ⟨g, F, env, s, k⟩ := h
  refine ⟨g, F, env, s, Post.mono (fun rs env1 h1 vs F1 H1 s1 f1 r => ?_) (post_bind k)⟩
  cases e : allV rs with
  | none => rw [e] at h1; exact h1.elim
  | some ds =>
    rw [e] at h1
    dsimp only at h1
    split at h1
    · rename_i hz
      have r2 := r.allV e
      refine ⟨by rw [r2.length]; exact lim1 hz, fun p hp => ?_⟩
      have x := Ext.new (o := HO.tup vs) s1.fh hp
      exact h1 _ _ _ (s1.ext x) (f1.trans x.ff) (.tup upd_same (r2.mono x.ff))
    · exact h1.elim
theorem tO_lst {as : ACs} {Q : VK} (h : tO K ca T calls W (.lst as) σ H Q) : tLst (tAs K ca T calls W as) σ H Q := by
  obtain ⟨g, F, env, s, k⟩ := h
  refine ⟨g, F, env, s, Post.mono (fun rs env1 h1 vs F1 H1 s1 f1 r => ?_) (post_bind k)⟩
  cases e : allV rs with
  | none => rw [e] at h1; exact h1.elim
  | some ds =>
    rw [e] at h1
    dsimp only at h1
    split at h1
    · rename_i hz
      have r2 := r.allV e
      refine ⟨by rw [r2.length]; exact lim1 hz, fun p hp => ?_⟩
      obtain ⟨s2, ow⟩ := s1.newOwn (o := .lst vs) hp (.lst r2)
      exact h1 _ F1 _ s2 f1 ow
    · exact h1.elim
theorem lookS {f : Str} : ∀ {fs : List (Str × V)} {ds : List (Str × D)} {d : D}, fs.map Prod.fst = ds.map Prod.fst → Rps K ca F (fs.map Prod.snd) (ds.map Prod.snd) → ds.lookup f = some d → ∃ v, fs.lookup f = some v ∧ Rp K ca F v d
  | [], [], d, _, _, e => by cases e
  | [], _ :: _, d, h, _, e => by cases h
  | _ :: _, [], d, h, _, e => by cases h
  | (k1, v1) :: fs, (k2, d1) :: ds, d, h, r, e => by
    have h' : k1 :: fs.map Prod.fst = k2 :: ds.map Prod.fst := h
    injection h' with e1 e2
    subst e1
    have r' : Rps K ca F (v1 :: fs.map Prod.snd) (d1 :: ds.map Prod.snd) := r
    cases r' with
    | cons r1 r2 =>
      rw [List.lookup_cons] at e ⊢
      cases q : (f == k1) with
      | true => rw [q] at e; cases e; exact ⟨v1, rfl, r1⟩
      | false => rw [q] at e; exact lookS e2 r2 e
end

/-! ### judgements -/
section
variable {X : Cx} {W : WX} {ca : Nat → Addr} {T : Tab} {calls : Calls} {e a b c : Expr} {es : List Expr} {pos : Pos}
/-- a value's truth, as a test -/
theorem dt_tru {ac : A1} (ha : DA X W ca T calls a ac) (he : ∀ whole, isTrue a X.env whole = (do let v ← whole; standAt a.pos; holding [v] (truthy v)) := by intro _; rfl) : DT X W ca T calls a (.op .tru (ac.cons .nil)) :=
  PT.imp (pt_truth ha he) fun σ H Q h => by
    refine one_of (R := fun x H' => ∃ k, TruV X.K x H' k ∧ Q k H') ?_
    obtain ⟨g, F, env, s, k⟩ := h
    refine ⟨g, F, env, s, Post.mono (fun rs env1 h1 vs F1 H1 s1 f1 r => ?_) (post_bind k)⟩
    cases q : getAll env1 rs with
    | none => rw [q] at h1; exact h1.elim
    | some ds =>
      rw [q] at h1
      obtain ⟨d, e, b, rfl, k2⟩ := post_okO h1
      have e' : opD .tru ds = some (.bl b) := e
      have rr := r.read s1 q
      match ds, rr, e' with
      | [d], rr, e' =>
        obtain ⟨v, rfl, r1⟩ := rr.one
        have e2 : (truD d).map D.bl = some (.bl b) := e'
        cases q3 : truD d with
        | none => rw [q3] at e2; cases e2
        | some b2 =>
          rw [q3] at e2
          cases e2
          exact ⟨v, rfl, b, r1.truth s1.fh q3, k2 F1 H1 s1 f1⟩
      | [], rr, e' => cases e'
      | [d1, d2], rr, e' =>
        exfalso
        have e2 : ints2 (arith .tru) d1 d2 = some (.bl b) := e'
        obtain ⟨i, j, _, _, e3⟩ := ints2_some e2
        cases e3
      | [_, _, _], rr, e' => cases e'
      | _ :: _ :: _ :: _ :: _, rr, e' => cases e'
theorem dw_and1 {ac : EC} (ha : DT X W ca T calls a ac) : DW X W ca T calls (.BoolOp .And [a] pos) ac := pw_and1 ha
theorem dw_and {rest : List Expr} {ac bc : EC} (ha : DT X W ca T calls a ac) (hb : DW X W ca T calls (.BoolOp .And (b :: rest) pos) bc) : DW X W ca T calls (.BoolOp .And (a :: b :: rest) pos) (.and ac bc) := PW.imp (pw_and ha hb) fun _ _ _ h => tT_and h
theorem dw_or1 {ac : EC} (ha : DT X W ca T calls a ac) : DW X W ca T calls (.BoolOp .Or [a] pos) ac := pw_or1 ha
theorem dw_or {rest : List Expr} {ac bc : EC} (ha : DT X W ca T calls a ac) (hb : DW X W ca T calls (.BoolOp .Or (b :: rest) pos) bc) : DW X W ca T calls (.BoolOp .Or (a :: b :: rest) pos) (.or ac bc) := PW.imp (pw_or ha hb) fun _ _ _ h => tT_or h
theorem dt_w {ac : EC} (h : DW X W ca T calls e ac) : DT X W ca T calls e ac := h.pt
theorem dt_not {ac : EC} (ha : DT X W ca T calls a ac) : DT X W ca T calls (.UnaryOp .Not a pos) (.op .not (.e ac .nil)) := PT.imp (pt_not ha) fun _ _ _ h => tT_not h
theorem de_one {op} {ac : EC} (h : DE X W ca T calls a ac) : DE X W ca T calls (.BoolOp op [a] pos) ac := pe_one h
theorem de_and {rest : List Expr} {ac bc : EC} (ha : DE X W ca T calls a ac) (hb : DE X W ca T calls (.BoolOp .And (b :: rest) pos) bc) : DE X W ca T calls (.BoolOp .And (a :: b :: rest) pos) (.and ac bc) := PE.imp (pe_and ha hb) fun _ _ _ h => tE_and h
theorem de_or {rest : List Expr} {ac bc : EC} (ha : DE X W ca T calls a ac) (hb : DE X W ca T calls (.BoolOp .Or (b :: rest) pos) bc) : DE X W ca T calls (.BoolOp .Or (a :: b :: rest) pos) (.or ac bc) := PE.imp (pe_or ha hb) fun _ _ _ h => tE_or h
theorem de_not {ac : EC} (ha : DE X W ca T calls a ac) : DE X W ca T calls (.UnaryOp .Not a pos) (.op .not (.e ac .nil)) := PE.imp (pe_not ha) fun _ _ _ h => tE_not h
theorem de_ifx {cc ac bc : EC} (hc : DT X W ca T calls c cc) (ha : DE X W ca T calls a ac) (hb : DE X W ca T calls b bc) : DE X W ca T calls (.IfExp c a b pos) (.ifx cc ac bc) := PE.imp (pe_ifExp hc ha hb) fun _ _ _ h => tE_ifx h
theorem dt_chain {op op' : CmpOp} {r r' : R2} {p q : Op} {ac bc cc : EC} (ho : OpR X (compareOp op) r) (ho' : OpR X (compareOp op') r') (hp : OpS X.K ca p (R2L r)) (hq : OpS X.K ca q (R2L r')) (ha : DE X W ca T calls a ac) (hb : DE X W ca T calls b bc) (hc : DE X W ca T calls c cc)
    (hm : lastMarks [op, op'] [b, c] = false := by with_unfolding_all rfl) : DT X W ca T calls (.Compare a [op, op'] [b, c] pos) (.chain p q ac bc cc) :=
  PT.imp (pt_chain ho ho' ha hb hc hm) fun σ H Q h => tE_chain hp hq (tE_tT h)
theorem de_chain {op op' : CmpOp} {r r' : R2} {p q : Op} {ac bc cc : EC} (ho : OpR X (compareOp op) r) (ho' : OpR X (compareOp op') r') (hp : OpS X.K ca p (R2L r)) (hq : OpS X.K ca q (R2L r')) (ha : DE X W ca T calls a ac) (hb : DE X W ca T calls b bc) (hc : DE X W ca T calls c cc)
    (hm : lastMarks [op, op'] [b, c] = false := by with_unfolding_all rfl) : DE X W ca T calls (.Compare a [op, op'] [b, c] pos) (.chain p q ac bc cc) :=
  PE.imp (pe_chain ho ho' ha hb hc hm) fun σ H Q h => tE_chain hp hq h
theorem de_tup {as : ACs} {x1} (h : DAs X W ca T calls es as) : DE X W ca T calls (.Tuple es x1 pos) (.tup as) := PE.imp (pe_tup h) fun _ _ _ h => tE_tup h
theorem do_lst {as : ACs} (h : DAs X W ca T calls es as) : DO X W ca T calls (.List es pos) (.lst as) := PE.imp (pe_lst h) fun _ _ _ h => tO_lst h
theorem fld_some {f : Str} {ds : List D} {d : D} (h : opT T (.fld f) ds = some d) : ∃ c fs, ds = [.obj c fs] ∧ T.attr c f = true ∧ fs.lookup f = some d := by
  simp only [opT] at h
  split at h
  · split at h
    · exact ⟨_, _, rfl, by assumption, h⟩
    · cases h
  · cases h
/-- what the text has of the classes' attributes -/
def AttrOk (K : PySem.W.Frag) (ca : Nat → Addr) (T : Tab) : Prop := ∀ c f, T.attr c f = true → Cls K (ca c) ∧ NoAttr K (ca c) f
theorem de_fld {f : Str} {ac : A1} (hA : AttrOk X.K ca T) (ha : DA X W ca T calls a ac) (hb : attributeBase a f X.env (eval a X.env) = eval a X.env := by rfl) : DE X W ca T calls (.Attribute a f pos) (.op (.fld f) (ac.cons .nil)) :=
  PE.imp (pe_fld ha hb) fun σ H Q h => by
    refine one_of (R := fun x H1 => ∃ a C dx fs v, x = .ref a ∧ H1 a = some (.ins C dx fs) ∧ Cls X.K C ∧ NoAttr X.K C f ∧ fs.lookup f = some v ∧ Q v H1) ?_
    obtain ⟨g, F, env, s, k⟩ := h
    refine ⟨g, F, env, s, Post.mono (fun rs env1 h1 vs F1 H1 s1 f1 r => ?_) (post_bind k)⟩
    cases q : getAll env1 rs with
    | none => rw [q] at h1; exact h1.elim
    | some ds =>
      rw [q] at h1
      obtain ⟨d, e, k2⟩ := post_okO h1
      obtain ⟨c, fs, rfl, hat, e'⟩ := fld_some e
      obtain ⟨v, rfl, r1⟩ := (r.read s1 q).one
      obtain ⟨p, dx, fs', rfl, h3, h4, h5⟩ := r1.obj s1.fh
      obtain ⟨v, h6, h7⟩ := lookS h4 h5 e'
      exact ⟨_, rfl, p, _, dx, fs', v, rfl, h3, (hA _ _ hat).1, (hA _ _ hat).2, h6, k2 v F1 H1 s1 f1 h7⟩
end
end DV


set_option maxRecDepth 100000
set_option maxHeartbeats 4000000
/-! DV6: slices, copies, repr, methods of lists. -/
namespace DV
open PySem PySem.Spec PyProof.Rows L2

section
variable {K : PySem.W.Frag} {ca : Nat → Addr} {T : Tab} {calls : Calls} {W : WX} {g : Gh} {F F' H H' : Hp} {σ : L2.St} {env env' : Ce}
theorem cut_rps {vs : List V} {ds : List D} (r : Rps K ca F vs ds) (lo hi : Option Int) : Rps K ca F (cutV vs lo hi) (cutL ds lo hi) := by
  unfold cutV cutL
  rw [r.length]
  exact (r.drop _).take _
def rSlA (K : PySem.W.Frag) : V → Option Int → Option Int → Hp → VK → Prop := fun x lo hi H Q => rSlS x lo hi H Q ∨ rSlT K x lo hi H Q
theorem sl_A {X : Cx} : SlR X (rSlA X.K) := SlR.or sl_str sl_tup
theorem slA_of {x : V} {a d : D} {lo hi : Option Int} {Q : VK} (e : Same F H) (r : Rr K ca F H x a) (h : slD a lo hi = some d) (k : ∀ v F' H', Ext F H F' H' → Rp K ca F' v d → Q v H') : rSlA K x lo hi H Q := by
  cases a with
  | str s =>
    simp only [slD] at h
    split at h
    · cases h
      exact .inl ⟨s, r.str, lim1 (by assumption), k _ F H (Ext.refl e) (.str _)⟩
    · cases h
  | tup xs =>
    simp only [slD] at h
    split at h
    · cases h
    · rename_i hn
      cases h
      obtain ⟨p, vs, rfl, h4, h5, _⟩ := r.tup
      refine .inr ⟨p, vs, rfl, .inl (.inl (e _ _ h4)), ?_, fun l hl => ?_⟩
      · rw [h5.length]; exact hn
      · have z := Ext.new (o := HO.tup (cutV vs lo hi)) e hl
        exact k _ _ _ z (.tup upd_same ((cut_rps h5 lo hi).mono z.ff))
  | _ => cases h
theorem partD_some {b : D} {l : Option Int} (h : partD b = some l) : ∃ i, b = .int i ∧ l = some i := by
  cases b with
  | int i => cases h; exact ⟨i, rfl, rfl⟩
  | _ => cases h
theorem s_slHi : OpS K ca (.sl false true) (R2L fun x y H Q => ∃ i, y = .int i ∧ rSlA K x none (some i) H Q) := opS2 (h := fun F H x y a b d Q e r1 r2 h k => by
  have h' : (match partD b with
    | some h => slD a none h
    | none => none) = some d := h
  cases q : partD b with
  | none => rw [q] at h'; cases h'
  | some l =>
    rw [q] at h'
    obtain ⟨i, rfl, rfl⟩ := partD_some q
    exact ⟨x, y, rfl, i, r2.int, slA_of e r1 h' k⟩)
theorem s_slLo : OpS K ca (.sl true false) (R2L fun x y H Q => ∃ i, y = .int i ∧ rSlA K x (some i) none H Q) := opS2 (h := fun F H x y a b d Q e r1 r2 h k => by
  have h' : (match partD b with
    | some l => slD a l none
    | none => none) = some d := h
  cases q : partD b with
  | none => rw [q] at h'; cases h'
  | some l =>
    rw [q] at h'
    obtain ⟨i, rfl, rfl⟩ := partD_some q
    exact ⟨x, y, rfl, i, r2.int, slA_of e r1 h' k⟩)
theorem fopS {o : FOp} {R : List V → Hp → VK → Prop} (h : ∀ (F H : Hp) (vs : List V) (ds : List D) (d : D) (Q : VK), Same F H → Rrs K ca F H vs ds → fop o ds = some d → (∀ p ob, H p = none → Ob K ca F ob d → Q (.ref p) (upd H p ob)) → R vs H Q) : FopS K ca o R := h
/-- xs[:i] of a list, of the script -/
theorem f_slHi : FopS K ca (.sl false true) (R2L fun x y H Q => ∃ i, y = .int i ∧ rSlL K x none (some i) H Q) := by
  intro F H vs ds d Q e r h k
  simp only [fop] at h
  split at h
  · obtain ⟨x, y, rfl, r1, r2⟩ := r.two
    cases h
    obtain ⟨p, vs, rfl, h4, h5⟩ := r1.lst e
    exact ⟨_, y, rfl, _, r2.int, p, vs, rfl, .inl (.inl h4), fun l hl => k l _ hl (.lst (cut_rps h5 _ _))⟩
  · obtain ⟨x, y, rfl, r1, r2⟩ := r.two
    cases h
    obtain ⟨p, rfl, h4⟩ := r1.scr e
    exact ⟨_, y, rfl, _, r2.int, p, _, rfl, h4, fun l hl => k l _ hl (.lst (cut_rps (Rps.ofInts _) _ _))⟩
  · cases h
theorem f_slLo : FopS K ca (.sl true false) (R2L fun x y H Q => ∃ i, y = .int i ∧ rSlL K x (some i) none H Q) := by
  intro F H vs ds d Q e r h k
  simp only [fop] at h
  split at h
  · obtain ⟨x, y, rfl, r1, r2⟩ := r.two
    cases h
    obtain ⟨p, vs, rfl, h4, h5⟩ := r1.lst e
    exact ⟨_, y, rfl, _, r2.int, p, vs, rfl, .inl (.inl h4), fun l hl => k l _ hl (.lst (cut_rps h5 _ _))⟩
  · cases h
theorem f_rev : FopS K ca .rev (R1L fun x H Q => ∃ a xs, x = .ref a ∧ SqL K H a xs ∧ ∀ p, H p = none → Q (.ref p) (upd H p (.lst xs.reverse))) := by
  intro F H vs ds d Q e r h k
  simp only [fop] at h
  split at h
  · obtain ⟨x, rfl, r1⟩ := r.one
    cases h
    obtain ⟨p, vs, rfl, h4, h5⟩ := r1.lst e
    exact ⟨_, rfl, p, vs, rfl, .inl (.inl h4), fun l hl => k l _ hl (.lst h5.reverse)⟩
  · cases h
theorem f_rep : FopS K ca .rep (R2L rRep) := by
  intro F H vs ds d Q e r h k
  simp only [fop] at h
  split at h
  · split at h
    · rename_i c
      obtain ⟨x, y, rfl, r1, r2⟩ := r.two
      cases h
      obtain ⟨p, vs, rfl, h4, h5⟩ := r1.lst e
      have c1 := c.1
      refine ⟨_, y, rfl, p, _, vs, rfl, r2.int, h4, by omega, by omega, by rw [h5.length]; exact lim1 c.2, fun l hl => k l _ hl (.lst (h5.flatRep _))⟩
    · cases h
  · cases h
theorem f_list : FopS K ca .list (fun xs H Q => ∃ p ys, xs = [.ref p] ∧ (SqL K H p ys ∨ SqT K H p ys) ∧ ∀ l, H l = none → Q (.ref l) (upd H l (.lst ys))) := by
  intro F H vs ds d Q e r h k
  simp only [fop] at h
  split at h
  · obtain ⟨x, rfl, r1⟩ := r.one
    cases h
    obtain ⟨p, vs, rfl, h4, h5⟩ := r1.seq e (.inl rfl)
    exact ⟨p, vs, rfl, h4, fun l hl => k l _ hl (.lst h5)⟩
  · obtain ⟨x, rfl, r1⟩ := r.one
    cases h
    obtain ⟨p, vs, rfl, h4, h5⟩ := r1.seq e (.inr (.inl rfl))
    exact ⟨p, vs, rfl, h4, fun l hl => k l _ hl (.lst h5)⟩
  · cases h
/-! ### repr -/
def rRepr (K : PySem.W.Frag) : List V → Hp → VK → Prop := fun vs H Q => ∃ x p, vs = [x] ∧ Dp K H x p ∧ p.showable = true ∧ p.hasDict = false ∧ p.depth ≤ 60 ∧ p.shown.length ≤ sizeLine ∧ Q (.str p.shown) H
theorem call_reprA {X : Cx} (hg : X.A.guards = some []) (hu : X.A.units + 64 < cLine) : CallR X (.builtin "repr") (rRepr X.K) := by
  intro pins s σ H xs us Q I r h
  obtain ⟨x, p, rfl, hd, h1, h2, h3, h4, q⟩ := h
  obtain ⟨u, rfl, ru⟩ := r.one
  have strE : ∀ t, EP X pins σ Q (.str p.shown t) { s with toks := s.toks + 1 } := fun t => ⟨.str _, H, I.tok _, ⟨t, rfl⟩, q⟩
  cases hd with
  | non => cases ru; exact PySem.P.repr_of_none (strE _)
  | bl b => cases ru; exact PySem.P.repr_of_bool (strE _)
  | int i =>
    obtain ⟨t, rfl⟩ := ru
    have z : i.natAbs.log2 < 1920 := by simpa [PyData.showable] using h1
    exact PySem.P.repr_of_int z (strE _)
  | str x =>
    obtain ⟨t, rfl⟩ := ru
    exact PySem.P.repr_of_str (strE _) h4
  | lst hs ha =>
    rename_i a vs ps
    obtain ⟨as, r1⟩ := Dp.reads I (.list ps) _ u (.lst hs ha) ru
    cases ru
    exact repr_of_reads' r1 h1 (PyData.noDict_hsm h2) hg (by omega) (fun _ _ z => z) (fun h' t tk hk => ⟨.str _, H, I.kept hk, ⟨t, rfl⟩, q⟩) h4
  | tup hs ha =>
    rename_i a vs ps
    obtain ⟨as, r1⟩ := Dp.reads I (.tuple ps) _ u (.tup hs ha) ru
    cases ru
    exact repr_of_reads' r1 h1 (PyData.noDict_hsm h2) hg (by omega) (fun _ _ z => z) (fun h' t tk hk => ⟨.str _, H, I.kept hk, ⟨t, rfl⟩, q⟩) h4
theorem s_repr : OpS K ca .repr (rRepr K) := opS1 (fun a b => by cases a <;> cases b <;> rfl) (h := fun F H x a d Q e r h k => by
  have h' : (reprD a).map D.str = some d := h
  cases q : reprD a with
  | none => rw [q] at h'; cases h'
  | some z =>
    rw [q] at h'
    cases h'
    unfold reprD at q
    split at q
    · rename_i p e1
      split at q
      · rename_i c
        cases q
        exact ⟨x, p, rfl, r.dp e e1, c.1, c.2.1, c.2.2.1, lim1 c.2.2.2, k _ F H (Ext.refl e) (.str _)⟩
      · cases q
    · cases q)
/-! ### xs.count(y) -/
def rCnt (K : PySem.W.Frag) : V → List V → Hp → VK → Prop := fun x xs H Q => ∃ (p : Addr) (ys : List V) (y : V), x = .ref p ∧ xs = [y] ∧ SqL K H p ys ∧ flatV y = true ∧ ys.all flatV = true ∧ Q (.int ((ys.countP fun z => eqV z y : Nat) : Int)) H
theorem count_eqU {x : V} : ∀ {xs : List V} {us : List Value}, Vals xs us → xs.all flatV = true → us.countP (eqU x) = xs.countP fun y => eqV y x
  | _, _, .nil, _ => rfl
  | _, _, .cons (a := y) r t, f => by
    rw [List.all_cons, Bool.and_eq_true] at f
    rw [List.countP_cons, List.countP_cons, count_eqU t f.2, eqU_of r f.1]
theorem mt_cnt {X : Cx} : MtR X "list.count" (rCnt X.K) := by
  intro pins s σ H x xs v us Q I rx rxs h
  obtain ⟨p, ys, y, rfl, rfl, hs, fy, fys, q⟩ := h
  cases rx
  obtain ⟨u, rfl, ru⟩ := rxs.one
  obtain ⟨its, rv, ⟨⟨cls, dd, data, sl⟩, n, ho, hc, hdn, hd⟩, hlen⟩ := I.list hs
  simp only at hc hd
  subst hc hd
  refine call_meets PySem.F.slot_list_count ⟨_, ho, rfl⟩ PySem.F.entry_list_count (PySem.F.args_list_count_2 _ _) (SeqAt.list_countAt p its.toArray n dd sl u (eqU y)) ⟨ho, fun z hz => mem_eqAt ru fy rv fys z (by simpa using hz), ?_⟩
  refine ⟨.int _, H, I.tok _, ⟨s.toks, ?_⟩, q⟩
  show Value.int ((its.toArray.toList.countP (eqU y) : Nat) : Int) s.toks = _
  rw [← count_eqU rv fys]
/-! ### methods that change a list -/
/-- R is a reading of the change: at the receiver's object -/
def MopS (K : PySem.W.Frag) (ca : Nat → Addr) (m : MOp) (R : V → List V → Hp → VK → Prop) : Prop :=
  ∀ (F H : Hp) (a : Addr) (o : HO) (x : D) (vs : List V) (ds : List D) (r : D × D) (Q : VK), Same F H → H a = some o → Ob K ca F o x → Rps K ca F vs ds → mop m x ds = some r →
    (∀ v o', Ob K ca F o' r.2 → Rp K ca F v r.1 → Q v (upd H a o')) → R (.ref a) vs H Q
theorem Rps.one_of {vs : List V} {d : D} (h : Rps K ca F vs [d]) : ∃ v, vs = [v] ∧ Rp K ca F v d := by
  cases h with
  | cons h t => cases t; exact ⟨_, rfl, h⟩
theorem Rps.nil_of {vs : List V} (h : Rps K ca F vs []) : vs = [] := by cases h; rfl
theorem m_append : MopS K ca .append rAppend := by
  intro F H a o x vs ds r Q e hH ho rv h k
  simp only [mop] at h
  split at h
  · split at h
    · rename_i hz
      cases h
      cases ho with
      | lst hr =>
        obtain ⟨v, rfl, r1⟩ := rv.one_of
        exact ⟨a, _, v, rfl, rfl, hH, by rw [hr.length]; exact lim2 hz, k .non _ (.lst (hr.append (.one r1))) .non⟩
    · cases h
  · cases h
theorem m_pop : MopS K ca .pop rPop := by
  intro F H a o x vs ds r Q e hH ho rv h k
  simp only [mop] at h
  split at h
  · rename_i xs
    cases q : xs[xs.length - 1]? with
    | none => rw [q] at h; cases h
    | some d =>
      rw [q] at h
      cases h
      cases ho with
      | lst hr =>
        obtain rfl := rv.nil_of
        obtain ⟨v, h1, h2⟩ := hr.get q
        rw [← hr.length] at h1
        exact ⟨a, _, v, rfl, rfl, hH, h1, k v _ (.lst hr.dropLast) h2⟩
  · cases h
theorem m_extend : MopS K ca .extend rExtend := by
  intro F H a o x vs ds r Q e hH ho rv h k
  simp only [mop] at h
  split at h
  · split at h
    · rename_i hz
      cases h
      cases ho with
      | lst hr =>
        obtain ⟨v, rfl, r1⟩ := rv.one_of
        cases r1 with
        | lst h1 h2 => exact ⟨a, _, _, _, rfl, rfl, hH, e _ _ h1, by rw [hr.length, h2.length]; exact lim1 hz, k .non _ (.lst (hr.append h2)) .non⟩
    · cases h
  · cases h
theorem isLst_some {o : Option D} (h : isLst o = true) : ∃ xs, o = some (.lst xs) := by
  unfold isLst at h
  split at h
  · exact ⟨_, rfl⟩
  · cases h
theorem mineAt_some {i : Nat} (h : mineAt env i = true) : ∃ c, env[i]? = some c ∧ c.mine = true := by
  unfold mineAt at h
  split at h
  · exact ⟨_, by assumption, h⟩
  · cases h
/-- what is asked ahead of the arguments, then the change -/
theorem tE_mut {m : MOp} {i : Nat} {as : ACs} {R : V → List V → Hp → VK → Prop} {Q : VK} (hR : MopS K ca m R) (h : tE K ca T calls W (.mut m i as) σ H Q) :
    ∃ a xs, σ[i]? = some (some (.ref a)) ∧ H a = some (.lst xs) ∧ tAs K ca T calls W as σ H fun vs H' => R (.ref a) vs H' Q := by
  obtain ⟨g, F, env, s, k⟩ := h
  simp only [evE] at k
  split at k
  · rename_i c
    rw [Bool.and_eq_true] at c
    obtain ⟨c0, h1, h2⟩ := mineAt_some c.1
    obtain ⟨xs, h3⟩ := isLst_some c.2
    obtain ⟨c1, h4, h5⟩ := cell_val h3
    rw [h1] at h4
    cases h4
    obtain ⟨a, o, d, e1, e2, e3, e4, e5, e6⟩ := s.mine h1 h2
    rw [h5] at e1
    cases e1
    cases e4 with
    | lst hr =>
      refine ⟨a, _, e2, e3, g, F, env, s, Post.mono (fun rs env1 k1 vs F1 H1 s1 f1 r => ?_) (post_bind k)⟩
      have k2 : Post K ca g σ W _ (mutD m i rs env1) := k1
      unfold mutD at k2
      split at k2
      · rename_i ds c2 q1 q2
        split at k2
        · rename_i hm
          split at k2
          · rename_i x hx
            split at k2
            · rename_i rr hr2
              obtain ⟨a2, o2, d2, y1, y2, y3, y4, y5, y6⟩ := s1.mine q2 hm
              rw [e2] at y2
              cases y2
              rw [hx] at y1
              cases y1
              refine hR F1 H1 a o2 x vs ds rr Q s1.fh y3 y4 (r.allV q1) hr2 fun v o' ho' hv => ?_
              exact k2 v F1 _ (s1.write q2 hm e2 y3 ho') f1 hv
            · exact k2.elim
          · exact k2.elim
        · exact k2.elim
      · exact k2.elim
  · exact k.elim
end

section
variable {X : Cx} {W : WX} {ca : Nat → Addr} {T : Tab} {calls : Calls} {e a b c : Expr} {es : List Expr} {pos p2 : Pos}
theorem de_slHi {ac bc : A1} (ha : DA X W ca T calls a ac) (hb : DA X W ca T calls b bc) : DE X W ca T calls (.Subscript a (.Slice none (some b) none p2) pos) (.op (.sl false true) (ac.cons (bc.cons .nil))) :=
  PE.imp (pe_slice sl_A ha po_none (po_some hb)) fun σ H Q h => two_of (tE_op rfl s_slHi h)
theorem de_slLo {ac bc : A1} (ha : DA X W ca T calls a ac) (hb : DA X W ca T calls b bc) : DE X W ca T calls (.Subscript a (.Slice (some b) none none p2) pos) (.op (.sl true false) (ac.cons (bc.cons .nil))) :=
  PE.imp (pe_slice sl_A ha (po_some hb) po_none) fun σ H Q h => two_of (tE_op rfl s_slLo h)
theorem do_slHi {ac bc : A1} (ha : DA X W ca T calls a ac) (hb : DA X W ca T calls b bc) : DO X W ca T calls (.Subscript a (.Slice none (some b) none p2) pos) (.op (.sl false true) (ac.cons (bc.cons .nil))) :=
  PE.imp (pe_slice sl_list ha po_none (po_some hb)) fun σ H Q h => two_of (tO_op f_slHi h)
theorem do_slLo {ac bc : A1} (ha : DA X W ca T calls a ac) (hb : DA X W ca T calls b bc) : DO X W ca T calls (.Subscript a (.Slice (some b) none none p2) pos) (.op (.sl true false) (ac.cons (bc.cons .nil))) :=
  PE.imp (pe_slice sl_list ha (po_some hb) po_none) fun σ H Q h => two_of (tO_op f_slLo h)
theorem do_rev {ac : A1} {k : Nat} {q1 q2 q3 : Pos} (ha : DA X W ca T calls a ac) : DO X W ca T calls (.Subscript a (.Slice none none (some (.UnaryOp .USub (.Constant (.int 1) k q1) q2)) q3) pos) (.op .rev (ac.cons .nil)) :=
  PE.imp (pe_revL ha) fun σ H Q h => one_of (tO_op f_rev h)
theorem s_cnt {K : PySem.W.Frag} : OpS K ca .cnt (R2L fun x y H Q => rCnt K x [y] H Q) := opS2 (h := fun F H x y a b d Q e r1 r2 h k => by
  cases a with
  | lst xs =>
    have h' : (match toVs xs, toV b with
      | some vs, some v => some (D.int ((vs.countP fun y => eqV y v : Nat) : Int))
      | _, _ => none) = some d := h
    cases q1 : toVs xs with
    | none => rw [q1] at h'; cases h'
    | some vs =>
      cases q2 : toV b with
      | none => rw [q1, q2] at h'; cases h'
      | some v =>
        rw [q1, q2] at h'
        cases h'
        obtain ⟨p, us, rfl, h4, h5⟩ := r1.lst e
        obtain ⟨rfl, f1⟩ := h5.toVs q1
        obtain ⟨rfl, f2⟩ := r2.toV q2
        exact ⟨_, _, rfl, p, _, _, rfl, rfl, .inl (.inl h4), f2, f1, k _ F H (Ext.refl e) (.int _)⟩
  | _ => cases h)
/-- xs.count(y), y written -/
theorem de_cnt {ac : A1} {apos : Pos} {y : D} {vy : V} (ha : DA X W ca T calls a ac) (hb : PE X b (tC vy)) (hy : ∀ F, Rp X.K ca F vy y) (hbase : attributeBase a ("count" : Str) X.env (eval a X.env) = eval a X.env := by rfl)
    (hfew : ((backTo pos (starEach [b] X.env)).all (fun x => !x.1) && (backToKw pos (keywordEach [] X.env)).all (fun x => x.1.isSome) && decide ([b].length + ([] : List Keyword).length + (if ([] : List Keyword).isEmpty then 0 else 1) < 30)) = true := by rfl)
    (hline : (apos.endLine == pos.line) = true := by rfl) (hs : starEach [b] X.env = (false, eval b X.env) :: starEach [] X.env := by rfl) (hplain : (backTo pos (starEach [] X.env)).any (·.1) = false := by rfl) :
    DE X W ca T calls (.Call (.Attribute a ("count" : Str) apos) [b] [] pos) (.op .cnt (ac.cons (.e (.cst y) .nil))) :=
  PE.imp (pe_bm PySem.F.plainAttrs_list PySem.F.slot_list_count PySem.F.type_list_count mt_cnt ha (pa_cons hb pa_nil hs) hbase hfew hline hs hplain) fun σ H Q h => by
    refine tA1.mono ac σ H _ _ (fun x H1 h1 => ?_) (tAs_cons (tE_op rfl s_cnt h))
    obtain ⟨g, F, env, s, k⟩ := h1
    obtain ⟨x', y', e', p, ys, y2, rfl, e2, r1, r2, r3, r4⟩ := k [vy] F H1 s (Same.refl _) (.cons (hy F) .nil)
    injection e' with e3 e4
    injection e4 with e4 _
    injection e2 with e2 _
    cases e3
    cases e4
    cases e2
    exact ⟨.inl ⟨rfl, ys, r1⟩, p, ys, vy, rfl, rfl, r1, r2, r3, r4⟩
theorem de_mut {m : MOp} {i : Nat} {as : ACs} {R : V → List V → Hp → VK → Prop} {id : String} {x name : Str} {p apos : Pos} (slot : Slot "list" name id) (hty : typeOf (.builtin id) = pure (.type "method_descriptor")) (hm : MtR X id R) (hR : MopS X.K ca m R) (ha : DAs X W ca T calls (e :: es) as) (hx : PE X (.Name x p) (tVar i))
    (hbase : attributeBase (.Name x p) name X.env (eval (.Name x p) X.env) = eval (.Name x p) X.env := by rfl)
    (hfew : ((backTo pos (starEach (e :: es) X.env)).all (fun x => !x.1) && (backToKw pos (keywordEach [] X.env)).all (fun x => x.1.isSome) && decide ((e :: es).length + ([] : List Keyword).length + (if ([] : List Keyword).isEmpty then 0 else 1) < 30)) = true := by rfl)
    (hline : (apos.endLine == pos.line) = true := by rfl) (hs : starEach (e :: es) X.env = (false, eval e X.env) :: starEach es X.env := by rfl) (hplain : (backTo pos (starEach es X.env)).any (·.1) = false := by rfl) :
    DE X W ca T calls (.Call (.Attribute (.Name x p) name apos) (e :: es) [] pos) (.mut m i as) :=
  PE.imp (pe_bm PySem.F.plainAttrs_list slot hty hm hx ha hbase hfew hline hs hplain) fun σ H Q h => by
    obtain ⟨a, xs, h1, h2, h3⟩ := tE_mut hR h
    exact ⟨_, h1, .inl ⟨rfl, xs, .inl (.inl h2)⟩, h3⟩
theorem de_mut0 {m : MOp} {i : Nat} {R : V → List V → Hp → VK → Prop} {id : String} {x name : Str} {p apos : Pos} (slot : Slot "list" name id) (hty : typeOf (.builtin id) = pure (.type "method_descriptor")) (hm : MtR X id R) (hR : MopS X.K ca m R) (hx : PE X (.Name x p) (tVar i))
    (hbase : attributeBase (.Name x p) name X.env (eval (.Name x p) X.env) = eval (.Name x p) X.env := by rfl) (hline : (apos.endLine == pos.line) = true := by rfl) :
    DE X W ca T calls (.Call (.Attribute (.Name x p) name apos) [] [] pos) (.mut m i .nil) :=
  PE.imp (pe_bm0 PySem.F.plainAttrs_list slot hty hm hx hbase hline) fun σ H Q h => by
    obtain ⟨a, xs, h1, h2, h3⟩ := tE_mut hR h
    exact ⟨_, h1, .inl ⟨rfl, xs, .inl (.inl h2)⟩, tAs_nil h3⟩
end
end DV


set_option maxRecDepth 100000
set_option maxHeartbeats 4000000
/-! DV7: what a def promises; calls. -/
namespace DV
open PySem PySem.Spec PyProof.Rows L2

section
variable (K : PySem.W.Frag) (ca : Nat → Addr)
/-- the addresses of what is handed in to be changed -/
def ioAd : List Md → List V → List Addr
  | .io :: ms, .ref a :: vs => a :: ioAd ms vs
  | _ :: ms, _ :: vs => ioAd ms vs
  | _, _ => []
def ArgR (F H : Hp) (ios : List Addr) (m : Md) (v : V) (d : D) : Prop := match m with
  | .fz => Rp K ca F v d
  | .brw => Rp K ca F v d ∨ ∃ b o, v = .ref b ∧ H b = some o ∧ Ob K ca F o d ∧ b ∉ ios
  | .io => ∃ a o, v = .ref a ∧ H a = some o ∧ Ob K ca F o d ∧ F a = none
inductive ArgsR (F H : Hp) (ios : List Addr) : List Md → List V → List D → Prop
  | nil : ArgsR F H ios [] [] []
  | cons {m : Md} {v : V} {d : D} {ms : List Md} {vs : List V} {ds : List D} : ArgR K ca F H ios m v d → ArgsR F H ios ms vs ds → ArgsR F H ios (m :: ms) (v :: vs) (d :: ds)
/-- the heap behind a call: all stands but what was handed in to be changed -/
structure Back (F H F' H' : Hp) (ios : List Addr) : Prop where
  ff : Same F F'
  fh : Same F' H'
  nw : ∀ a o, F' a = some o → F a = some o ∨ H a = none
  hh : ∀ b o, H b = some o → b ∉ ios → H' b = some o
  dm : ∀ b, H' b = none → H b = none
/-- what was handed in to be changed, behind the call -/
def OutsR (F' H' : Hp) : List Md → List V → List D → Prop
  | [], _, ds => ds = []
  | .io :: ms, v :: vs, d :: ds => (∃ a o, v = .ref a ∧ H' a = some o ∧ Ob K ca F' o d ∧ F' a = none) ∧ OutsR F' H' ms vs ds
  | .fz :: ms, _ :: vs, ds => OutsR F' H' ms vs ds
  | .brw :: ms, _ :: vs, ds => OutsR F' H' ms vs ds
  | _, _, _ => False
def RetR (H F' H' : Hp) (ro : Bool) (v : V) (d : D) : Prop := match ro with
  | true => ∃ a o, v = .ref a ∧ H a = none ∧ H' a = some o ∧ Ob K ca F' o d ∧ F' a = none
  | false => Rp K ca F' v d
def ResR (F H : Hp) (c : FnC) (vs : List V) (Q : VK) (E : XK) : Res → Prop
  | .ret d os => ∀ v F' H', Back F H F' H' (ioAd c.ms vs) → OutsR K ca F' H' c.ms vs os → RetR K ca H F' H' c.ro v d → Q v H'
  | .exc x fs => ∀ F' H' dd, Back F H F' H' (ioAd c.ms vs) → XdOk K ca F' H' dd fs → E (.ref (ca x)) dd H'
/-- a def's promise: it does what its code does -/
def spF (T : Tab) (calls : Calls) (f : Nat) : Sp := fun vs H Q E => ∃ (F : Hp) (c : FnC) (ds : List D) (r : Res), T.code f = some c ∧ Same F H ∧ ArgsR K ca F H (ioAd c.ms vs) c.ms vs ds ∧ (ioAd c.ms vs).Nodup ∧ calls f ds = some r ∧ ResR K ca F H c vs Q E r
end
/-- a def that keeps a promise, where nothing is being shown -/
structure FnG (P : Program) (w : World) (K : PySem.W.Frag) (mg : Str → Option Value) (base : Heap) (k : Nat) (f : Addr) (fd : FuncData) (ps : List Str) (sp : Sp) : Prop where
  len : ∀ vs H Q E, sp vs H Q E → vs.length = ps.length
  go : ∀ (A : Around) (fr : List PySem.Env) (s : Shared) (H : Hp) (args : Args) (us : List Value) (vs : List V) (Q : VK) (E : XK), Room k A → A.guards = some [] → Env0 P w K mg base A fr s H → BindsTo s fd args (ps.zip us) → Vals vs us → sp vs H Q E →
    codeAny (model P w) A (.call (.ref f) args) (CR (L2.CX P w) fr P w H s Q E) s

section
variable {K : PySem.W.Frag} {ca : Nat → Addr} {T : Tab} {calls : Calls} {W : WX} {g : Gh} {F F' H H' : Hp} {σ : L2.St} {env env' : Ce}
theorem argsOk_some {ms : List Md} {rs : List RA} (h : argsOk env ms rs = true) : (ioSl ms rs).Nodup ∧ argsOk2 env (ioSl ms rs) ms rs = true := by
  unfold argsOk at h
  rw [Bool.and_eq_true] at h
  exact ⟨of_decide_eq_true h.1, h.2⟩
/-- each slot to be changed: of one's own, its address is handed in -/
theorem ioSl_mem {L : List Nat} : ∀ {ms : List Md} {rs : List RA} {vs : List V}, argsOk2 env L ms rs = true → ArgsV K ca F σ vs rs → ∀ a, a ∈ ioAd ms vs → ∃ i, i ∈ ioSl ms rs ∧ mineAt env i = true ∧ σ[i]? = some (some (.ref a))
  | [], [], _, _, .nil, a, ha => by cases ha
  | [], _ :: _, _, h, _, a, ha => by cases h
  | _ :: _, [], _, h, _, a, ha => by cases h
  | m :: ms, r :: rs, v :: vs, h, .cons hv ht, a, ha => by
    have h' : (argOk env L m r && argsOk2 env L ms rs) = true := h
    rw [Bool.and_eq_true] at h'
    cases m with
    | fz =>
      obtain ⟨i, h1, h2⟩ := ioSl_mem h'.2 ht a (show a ∈ ioAd ms vs from ha)
      exact ⟨i, h1, h2⟩
    | brw =>
      obtain ⟨i, h1, h2⟩ := ioSl_mem h'.2 ht a (show a ∈ ioAd ms vs from ha)
      exact ⟨i, h1, h2⟩
    | io =>
      cases r with
      | v d => cases h'.1
      | s i =>
        cases v with
        | ref b =>
          rcases List.mem_cons.mp (show a ∈ b :: ioAd ms vs from ha) with e | e
          · subst e
            exact ⟨i, List.mem_cons_self, h'.1, hv⟩
          · obtain ⟨j, h1, h2⟩ := ioSl_mem h'.2 ht a e
            exact ⟨j, List.mem_cons_of_mem _ h1, h2⟩
        | _ =>
          obtain ⟨j, h1, h2⟩ := ioSl_mem h'.2 ht a (show a ∈ ioAd ms vs from ha)
          exact ⟨j, List.mem_cons_of_mem _ h1, h2⟩
theorem mineAt_of {i : Nat} {c : Cell} (h : env[i]? = some c) (m : c.mine = true) : mineAt env i = true := by
  unfold mineAt
  rw [h]
  exact m
theorem StOk.inj2 (s : StOk K ca g F H σ env) {i j : Nat} {a : Addr} (h1 : mineAt env i = true) (h2 : mineAt env j = true) (e1 : σ[i]? = some (some (.ref a))) (e2 : σ[j]? = some (some (.ref a))) : i = j := by
  obtain ⟨c, q1, q2⟩ := mineAt_some h1
  obtain ⟨d, q3, q4⟩ := mineAt_some h2
  exact s.inj i j a c d q1 q2 q3 q4 e1 e2
/-- what is handed in -/
theorem argsR_of (s : StOk K ca g F H σ env) {L : List Nat} {ios : List Addr} (hio : ∀ a, a ∈ ios → ∃ i, i ∈ L ∧ mineAt env i = true ∧ σ[i]? = some (some (.ref a))) :
    ∀ {ms : List Md} {rs : List RA} {vs : List V} {ds : List D}, argsOk2 env L ms rs = true → ArgsV K ca F σ vs rs → getAll env rs = some ds → ArgsR K ca F H ios ms vs ds
  | [], [], _, _, _, .nil, e => by cases e; exact .nil
  | [], _ :: _, _, _, h, _, _ => by cases h
  | _ :: _, [], _, _, h, _, _ => by cases h
  | m :: ms, r :: rs, v :: vs, ds, h, .cons hv ht, e => by
    have h' : (argOk env L m r && argsOk2 env L ms rs) = true := h
    rw [Bool.and_eq_true] at h'
    obtain ⟨d, es, rfl, e1, e2⟩ := getAll_cons e
    refine .cons ?_ (argsR_of s hio h'.2 ht e2)
    cases m with
    | fz =>
      cases r with
      | v d' => cases e1; exact hv
      | s i => cases h'.1
    | brw =>
      cases r with
      | v d' => cases e1; exact .inl hv
      | s j =>
        have hj : (!L.contains j) = true := h'.1
        have nj : j ∉ L := fun z => by
          rw [List.contains_iff_mem.mpr z] at hj
          cases hj
        obtain ⟨c, q1, q2⟩ := cell_val (show cellD env j = some d from e1)
        have hv' : σ[j]? = some (some v) := hv
        obtain ⟨ov, q3, q4⟩ := s.cel j c q1
        rw [hv'] at q3
        cases q3
        have mn : c.mine = true → ∀ b, v = .ref b → b ∉ ios := fun hm b eb hb => by
          obtain ⟨i, h1, h2, h3⟩ := hio b hb
          subst eb
          exact nj (s.inj2 h2 (mineAt_of q1 hm) h3 hv' ▸ h1)
        cases c with
        | emp => cases q2
        | fz d' => cases q2; obtain ⟨u, e3, r⟩ := q4; cases e3; exact .inl r
        | own d' => cases q2; obtain ⟨b, o, e3, z1, z2, z3, z4⟩ := q4; cases e3; exact .inr ⟨b, o, rfl, z1, z2, mn rfl b rfl⟩
        | brw d' =>
          cases q2
          obtain ⟨u, e3, r⟩ := q4
          cases e3
          rcases r with r | ⟨b, o, e4, z1, z2⟩
          · exact .inl r
          · refine .inr ⟨b, o, e4, s.gh _ _ (s.bg _ _ z1), z2, fun hb => ?_⟩
            obtain ⟨i, h1, h2, h3⟩ := hio b hb
            obtain ⟨c2, y1, y2⟩ := mineAt_some h2
            obtain ⟨a2, o2, d2, w1, w2, w3, w4, w5, w6⟩ := s.mine y1 y2
            rw [h3] at w2
            cases w2
            rw [s.bg _ _ z1] at w6
            cases w6
        | io d' => cases q2; obtain ⟨b, o, e0, e3, z1, z2, z3, z4⟩ := q4; cases e3; exact .inr ⟨b, o, rfl, z1, z2, mn rfl b rfl⟩
    | io =>
      cases r with
      | v d' => cases h'.1
      | s i =>
        obtain ⟨c, q1, q2⟩ := cell_val (show cellD env i = some d from e1)
        obtain ⟨c2, q3, q4⟩ := mineAt_some (show mineAt env i = true from h'.1)
        rw [q1] at q3
        cases q3
        obtain ⟨a, o, d2, w1, w2, w3, w4, w5, w6⟩ := s.mine q1 q4
        rw [q2] at w1
        cases w1
        have hv' : σ[i]? = some (some v) := hv
        rw [hv'] at w2
        cases w2
        exact ⟨a, o, rfl, w3, w4, w5⟩
theorem ioAd_nodup (s : StOk K ca g F H σ env) {L : List Nat} : ∀ {ms : List Md} {rs : List RA} {vs : List V}, argsOk2 env L ms rs = true → ArgsV K ca F σ vs rs → (ioSl ms rs).Nodup → (ioAd ms vs).Nodup
  | [], [], _, _, .nil, _ => List.nodup_nil
  | [], _ :: _, _, h, _, _ => by cases h
  | _ :: _, [], _, h, _, _ => by cases h
  | m :: ms, r :: rs, v :: vs, h, .cons hv ht, n => by
    have h' : (argOk env L m r && argsOk2 env L ms rs) = true := h
    rw [Bool.and_eq_true] at h'
    cases m with
    | fz =>
      show (ioAd ms vs).Nodup
      exact ioAd_nodup s h'.2 ht (show (ioSl ms rs).Nodup from n)
    | brw =>
      show (ioAd ms vs).Nodup
      exact ioAd_nodup s h'.2 ht (show (ioSl ms rs).Nodup from n)
    | io =>
      cases r with
      | v d => cases h'.1
      | s i =>
        have n' : (i :: ioSl ms rs).Nodup := n
        obtain ⟨n1, n2⟩ := List.nodup_cons.mp n'
        have ih := ioAd_nodup s h'.2 ht n2
        cases v with
        | ref b =>
          refine List.nodup_cons.mpr ⟨fun hb => ?_, ih⟩
          obtain ⟨j, h1, h2, h3⟩ := ioSl_mem h'.2 ht b hb
          exact n1 (s.inj2 h2 h'.1 h3 hv ▸ h1)
        | _ => exact ih
theorem dropIo_out {j : Nat} : ∀ {ms : List Md} {rs : List RA} {env : Ce}, j ∉ ioSl ms rs → (dropIo ms rs env)[j]? = env[j]?
  | [], [], _, _ => rfl
  | [], _ :: _, _, _ => rfl
  | .io :: _, [], _, _ => rfl
  | .fz :: _, [], _, _ => rfl
  | .brw :: _, [], _, _ => rfl
  | .io :: ms, .s i :: rs, env, h => by
    have h' : j ∉ i :: ioSl ms rs := h
    rw [List.mem_cons, not_or] at h'
    show (dropIo ms rs (env.set i .emp))[j]? = _
    rw [dropIo_out h'.2, List.getElem?_set_ne (Ne.symm h'.1)]
  | .io :: ms, .v d :: rs, env, h => dropIo_out (ms := ms) (rs := rs) h
  | .fz :: ms, r :: rs, env, h => dropIo_out (ms := ms) (rs := rs) h
  | .brw :: ms, r :: rs, env, h => dropIo_out (ms := ms) (rs := rs) h
theorem dropIo_in {j : Nat} {c : Cell} : ∀ {ms : List Md} {rs : List RA} {env : Ce}, j ∈ ioSl ms rs → (dropIo ms rs env)[j]? = some c → c = .emp
  | [], [], _, h, _ => by cases h
  | [], _ :: _, _, h, _ => by cases h
  | .io :: _, [], _, h, _ => by cases h
  | .fz :: _, [], _, h, _ => by cases h
  | .brw :: _, [], _, h, _ => by cases h
  | .io :: ms, .s i :: rs, env, h, e => by
    have e' : (dropIo ms rs (env.set i .emp))[j]? = some c := e
    by_cases q : j ∈ ioSl ms rs
    · exact dropIo_in q e'
    · rcases List.mem_cons.mp (show j ∈ i :: ioSl ms rs from h) with z | z
      · subst z
        rw [dropIo_out q] at e'
        obtain ⟨h1, h2⟩ := List.getElem?_eq_some_iff.mp e'
        rw [List.getElem_set_self] at h2
        exact h2.symm
      · exact absurd z q
  | .io :: ms, .v d :: rs, env, h, e => dropIo_in (ms := ms) (rs := rs) h e
  | .fz :: ms, r :: rs, env, h, e => dropIo_in (ms := ms) (rs := rs) h e
  | .brw :: ms, r :: rs, env, h, e => dropIo_in (ms := ms) (rs := rs) h e
theorem dropIo_length : ∀ {ms : List Md} {rs : List RA} {env : Ce}, (dropIo ms rs env).length = env.length
  | [], [], _ => rfl
  | [], _ :: _, _ => rfl
  | .io :: _, [], _ => rfl
  | .fz :: _, [], _ => rfl
  | .brw :: _, [], _ => rfl
  | .io :: ms, .s i :: rs, env => by
    show (dropIo ms rs (env.set i .emp)).length = _
    rw [dropIo_length, List.length_set]
  | .io :: ms, .v d :: rs, env => dropIo_length (ms := ms) (rs := rs)
  | .fz :: ms, r :: rs, env => dropIo_length (ms := ms) (rs := rs)
  | .brw :: ms, r :: rs, env => dropIo_length (ms := ms) (rs := rs)
theorem dropIo_set {i : Nat} {c : Cell} : ∀ {ms : List Md} {rs : List RA} {env : Ce}, i ∉ ioSl ms rs → dropIo ms rs (env.set i c) = (dropIo ms rs env).set i c
  | [], [], _, _ => rfl
  | [], _ :: _, _, _ => rfl
  | .io :: _, [], _, _ => rfl
  | .fz :: _, [], _, _ => rfl
  | .brw :: _, [], _, _ => rfl
  | .io :: ms, .s j :: rs, env, h => by
    have h' : i ∉ j :: ioSl ms rs := h
    rw [List.mem_cons, not_or] at h'
    show dropIo ms rs ((env.set i c).set j .emp) = (dropIo ms rs (env.set j .emp)).set i c
    rw [List.set_comm _ _ h'.1, dropIo_set h'.2]
  | .io :: ms, .v d :: rs, env, h => dropIo_set (ms := ms) (rs := rs) h
  | .fz :: ms, r :: rs, env, h => dropIo_set (ms := ms) (rs := rs) h
  | .brw :: ms, r :: rs, env, h => dropIo_set (ms := ms) (rs := rs) h
/-- behind a call: what was handed in to be changed is forgotten -/
theorem StOk.back (s : StOk K ca g F H σ env) {ms : List Md} {rs : List RA} {ios : List Addr} (hio : ∀ a, a ∈ ios → ∃ i, i ∈ ioSl ms rs ∧ mineAt env i = true ∧ σ[i]? = some (some (.ref a))) (b : Back F H F' H' ios) : StOk K ca g F' H' σ (dropIo ms rs env) := by
  have fn : ∀ a o, H a = some o → F a = none → F' a = none := fun a o h1 h2 => by
    cases q : F' a with
    | none => rfl
    | some u =>
      rcases b.nw a u q with z | z
      · rw [h2] at z; cases z
      · rw [h1] at z; cases z
  have ng : ∀ a o, g.G a = some o → a ∉ ios := fun a o h1 h2 => by
    obtain ⟨i, q1, q2, q3⟩ := hio a h2
    obtain ⟨c2, y1, y2⟩ := mineAt_some q2
    obtain ⟨a2, o2, d2, w1, w2, w3, w4, w5, w6⟩ := s.mine y1 y2
    rw [q3] at w2
    cases w2
    rw [h1] at w6
    cases w6
  have mn : ∀ (j : Nat) (c : Cell) (a : Addr), j ∉ ioSl ms rs → env[j]? = some c → c.mine = true → σ[j]? = some (some (.ref a)) → a ∉ ios := fun j c a hj h1 h2 h3 h4 => by
    obtain ⟨i, q1, q2, q3⟩ := hio a h4
    exact hj (s.inj2 q2 (mineAt_of h1 h2) q3 h3 ▸ q1)
  refine ⟨b.fh, fun a o h => b.hh a o (s.gh a o h) (ng a o h), s.g0, s.bg, s.f0.trans b.ff, fun a o h => ?_, fun a h => s.dom a (b.dm a h), by rw [dropIo_length]; exact s.len, fun j c h => ?_, fun i j a c e h1 m1 h2 m2 e1 e2 => ?_⟩
  · rcases b.nw a o h with q | q
    · exact s.fr a o q
    · exact .inr (s.dom a q)
  · by_cases hj : j ∈ ioSl ms rs
    · have hc := dropIo_in hj h
      subst hc
      have hl : j < σ.length := by
        rw [s.len, ← dropIo_length (ms := ms) (rs := rs) (env := env)]
        exact (List.getElem?_eq_some_iff.mp h).1
      exact ⟨σ[j], List.getElem?_eq_getElem hl, trivial⟩
    · rw [dropIo_out hj] at h
      obtain ⟨ov, q1, q2⟩ := s.cel j c h
      refine ⟨ov, q1, ?_⟩
      cases c with
      | emp => trivial
      | fz d => obtain ⟨v, e1, r⟩ := q2; exact ⟨v, e1, r.mono b.ff⟩
      | own d =>
        obtain ⟨a, o, e1, z1, z2, z3, z4⟩ := q2
        exact ⟨a, o, e1, b.hh a o z1 (mn j _ a hj h rfl (by rw [q1, e1])), z2.mono b.ff, fn a o z1 z3, z4⟩
      | brw d =>
        obtain ⟨v, e1, r⟩ := q2
        refine ⟨v, e1, ?_⟩
        rcases r with r | ⟨a, o, e2, z1, z2⟩
        · exact .inl (r.mono b.ff)
        · exact .inr ⟨a, o, e2, z1, z2.mono b.ff⟩
      | io d =>
        obtain ⟨a, o, e0, e1, z1, z2, z3, z4⟩ := q2
        exact ⟨a, o, e0, e1, b.hh a o z1 (mn j _ a hj h rfl (by rw [q1, e1])), z2.mono b.ff, fn a o z1 z3, z4⟩
  · have mm : ∀ (x : Nat) (e : Cell), (dropIo ms rs env)[x]? = some e → e.mine = true → env[x]? = some e := fun x e q me => by
      by_cases z : x ∈ ioSl ms rs
      · rw [dropIo_in z q] at me; cases me
      · rwa [dropIo_out z] at q
    exact s.inj i j a c e (mm i c h1 m1) m1 (mm j e h2 m2) m2 e1 e2
/-- a cell of one's own, apart from heap and content -/
def Stat (g : Gh) (σ : L2.St) (i : Nat) : Cell → Prop
  | .own _ => ∃ a, σ[i]? = some (some (.ref a)) ∧ g.H0 a = none
  | .io _ => ∃ a, σ[i]? = some (some (.ref a)) ∧ g.io i = some a ∧ g.G a = none
  | _ => False
theorem stat_put {i : Nat} {c : Cell} {d : D} (h : Stat g σ i c) : Stat g σ i (c.put d) := by cases c <;> exact h
theorem put_mine {c : Cell} {d : D} : (c.put d).mine = c.mine := by cases c <;> rfl
theorem set_same {α : Type} {l : List α} {i : Nat} {x : α} (h : l[i]? = some x) : l.set i x = l := by
  apply List.ext_getElem?
  intro j
  by_cases q : j = i
  · subst q
    rw [List.getElem?_set_self (List.getElem?_eq_some_iff.mp h).1, h]
  · rw [List.getElem?_set_ne (Ne.symm q)]
/-- .. and stands as the callee left it -/
theorem StOk.putOuts : ∀ {ms : List Md} {rs : List RA} {vs : List V} {os : List D} {env env' : Ce}, StOk K ca g F' H' σ (dropIo ms rs env) → (∀ i c, i ∈ ioSl ms rs → env[i]? = some c → Stat g σ i c) → (∀ (i j : Nat) (a : Addr) (c e : Cell), env[i]? = some c → c.mine = true → env[j]? = some e → e.mine = true → σ[i]? = some (some (.ref a)) → σ[j]? = some (some (.ref a)) → i = j) →
    ArgsV K ca F σ vs rs → OutsR K ca F' H' ms vs os → (ioSl ms rs).Nodup → putOuts ms rs os env = some env' → StOk K ca g F' H' σ env'
  | [], [], _, os, env, env', s, _, _, .nil, _, _, e => by
    cases os with
    | nil => cases e; exact s
    | cons d os => cases e
  | [], _ :: _, _, _, _, _, _, _, _, _, _, _, e => by cases e
  | .io :: _, [], _, _, _, _, _, _, _, _, _, _, e => by cases e
  | .fz :: _, [], _, _, _, _, _, _, _, _, _, _, e => by cases e
  | .brw :: _, [], _, _, _, _, _, _, _, _, _, _, e => by cases e
  | .fz :: ms, r :: rs, v :: vs, os, env, env', s, st, ij, .cons hv ht, o, n, e => StOk.putOuts (ms := ms) (rs := rs) (vs := vs) s st ij ht o n e
  | .brw :: ms, r :: rs, v :: vs, os, env, env', s, st, ij, .cons hv ht, o, n, e => StOk.putOuts (ms := ms) (rs := rs) (vs := vs) s st ij ht o n e
  | .io :: ms, .v d :: rs, v :: vs, os, env, env', s, st, ij, .cons hv ht, o, n, e => by cases e
  | .io :: ms, .s i :: rs, v :: vs, [], env, env', s, st, ij, .cons hv ht, o, n, e => by cases e
  | .io :: ms, .s i :: rs, v :: vs, d :: os, env, env', s, st, ij, .cons hv ht, o, n, e => by
    have n' : (i :: ioSl ms rs).Nodup := n
    obtain ⟨n1, n2⟩ := List.nodup_cons.mp n'
    have e' : (match env[i]? with
      | some c => DV.putOuts ms rs os (env.set i (c.put d))
      | none => none) = some env' := e
    cases q : env[i]? with
    | none => rw [q] at e'; cases e'
    | some c =>
      rw [q] at e'
      have hi : i < env.length := (List.getElem?_eq_some_iff.mp q).1
      obtain ⟨⟨a, ob, rfl, o1, o2, o3⟩, o4⟩ := (show (∃ a o, v = .ref a ∧ H' a = some o ∧ Ob K ca F' o d ∧ F' a = none) ∧ OutsR K ca F' H' ms vs os from o)
      have hv' : σ[i]? = some (some (.ref a)) := hv
      have stc := st i c List.mem_cons_self q
      refine StOk.putOuts (ms := ms) (rs := rs) (vs := vs) (env := env.set i (c.put d)) ?_ (fun j c2 hj q2 => ?_) (fun j k b c1 c2 q1 m1 q2 m2 => ?_) ht o4 n2 e'
      · have s' : StOk K ca g F' H' σ ((dropIo ms rs env).set i .emp) := by
          rw [← dropIo_set n1]
          exact s
        rw [dropIo_set n1]
        have hl : i < ((dropIo ms rs env).set i Cell.emp).length := by rw [List.length_set, dropIo_length]; exact hi
        have z := s'.put (i := i) (ov := some (.ref a)) (c := c.put d) (by
          cases c with
          | emp => trivial
          | fz d' => exact stc.elim
          | own d' =>
            obtain ⟨b, x1, x2⟩ := stc
            rw [hv'] at x1
            cases x1
            exact ⟨a, ob, rfl, o1, o2, o3, x2⟩
          | brw d' => exact stc.elim
          | io d' =>
            obtain ⟨b, x1, x2, x3⟩ := stc
            rw [hv'] at x1
            cases x1
            exact ⟨a, ob, x2, rfl, o1, o2, o3, x3⟩) hl (fun m j e2 b hj he me hb hs => by
          cases hb
          rw [List.getElem?_set_ne (Ne.symm hj)] at he
          rw [put_mine] at m
          by_cases w : j ∈ ioSl ms rs
          · rw [dropIo_in w he] at me; cases me
          · rw [dropIo_out w] at he
            exact hj (ij j i a e2 c he me q m hs hv'))
        rw [List.set_set, set_same hv'] at z
        exact z
      · by_cases w : j = i
        · subst w; exact absurd hj n1
        · rw [List.getElem?_set_ne (Ne.symm w)] at q2
          exact st j c2 (List.mem_cons_of_mem _ hj) q2
      · have mm : ∀ (x : Nat) (u : Cell), (env.set i (c.put d))[x]? = some u → u.mine = true → ∃ u', env[x]? = some u' ∧ u'.mine = true := fun x u y1 y2 => by
          by_cases z : x = i
          · subst z
            rw [List.getElem?_set_self hi] at y1
            cases y1
            rw [put_mine] at y2
            exact ⟨c, q, y2⟩
          · rw [List.getElem?_set_ne (Ne.symm z)] at y1; exact ⟨u, y1, y2⟩
        obtain ⟨u1, p1, p2⟩ := mm j c1 q1 m1
        obtain ⟨u2, p3, p4⟩ := mm k c2 q2 m2
        exact ij j k b u1 u2 p1 p2 p3 p4
end
end DV


set_option maxRecDepth 100000
set_option maxHeartbeats 4000000
/-! DV8: calls of defs, methods, classes. -/
namespace DV
open PySem PySem.Spec PyProof.Rows L2

section
variable {K : PySem.W.Frag} {ca : Nat → Addr} {T : Tab} {calls : Calls} {W : WX} {g : Gh} {F F' H H' : Hp} {σ : L2.St} {env env' : Ce}
theorem putOuts_mine {j : Nat} {c' : Cell} : ∀ {ms : List Md} {rs : List RA} {os : List D} {env env' : Ce}, DV.putOuts ms rs os env = some env' → env'[j]? = some c' → c'.mine = true → ∃ c, env[j]? = some c ∧ c.mine = true
  | [], [], [], env, env', e, h, m => by cases e; exact ⟨c', h, m⟩
  | [], [], _ :: _, env, env', e, h, m => by cases e
  | [], _ :: _, _, _, _, e, _, _ => by cases e
  | .io :: _, [], _, _, _, e, _, _ => by cases e
  | .fz :: _, [], _, _, _, e, _, _ => by cases e
  | .brw :: _, [], _, _, _, e, _, _ => by cases e
  | .fz :: ms, r :: rs, os, env, env', e, h, m => putOuts_mine (ms := ms) (rs := rs) (os := os) e h m
  | .brw :: ms, r :: rs, os, env, env', e, h, m => putOuts_mine (ms := ms) (rs := rs) (os := os) e h m
  | .io :: ms, .v d :: rs, os, env, env', e, h, m => by cases e
  | .io :: ms, .s i :: rs, [], env, env', e, h, m => by cases e
  | .io :: ms, .s i :: rs, d :: os, env, env', e, h, m => by
    have e' : (match env[i]? with
      | some c => DV.putOuts ms rs os (env.set i (c.put d))
      | none => none) = some env' := e
    cases q : env[i]? with
    | none => rw [q] at e'; cases e'
    | some c =>
      rw [q] at e'
      obtain ⟨c2, h1, h2⟩ := putOuts_mine (ms := ms) (rs := rs) (os := os) e' h m
      by_cases z : j = i
      · subst z
        rw [List.getElem?_set_self (List.getElem?_eq_some_iff.mp q).1] at h1
        cases h1
        rw [put_mine] at h2
        exact ⟨c, q, h2⟩
      · rw [List.getElem?_set_ne (Ne.symm z)] at h1
        exact ⟨c2, h1, h2⟩
theorem stat_of (s : StOk K ca g F H σ env) {i : Nat} {c : Cell} (h : env[i]? = some c) (m : c.mine = true) : Stat g σ i c := by
  obtain ⟨ov, h1, h2⟩ := s.cel i c h
  cases c with
  | own d => obtain ⟨a, o, rfl, q1, q2, q3, q4⟩ := h2; exact ⟨a, h1, q4⟩
  | io d => obtain ⟨a, o, q0, rfl, q1, q2, q3, q4⟩ := h2; exact ⟨a, h1, q0, q4⟩
  | emp => cases m
  | fz d => cases m
  | brw d => cases m
theorem ioSl_mine {L : List Nat} : ∀ {ms : List Md} {rs : List RA} {i : Nat}, argsOk2 env L ms rs = true → i ∈ ioSl ms rs → mineAt env i = true
  | [], [], _, _, h => by cases h
  | [], _ :: _, _, h, _ => by cases h
  | _ :: _, [], _, h, _ => by cases h
  | m :: ms, r :: rs, i, h, hi => by
    have h' : (argOk env L m r && argsOk2 env L ms rs) = true := h
    rw [Bool.and_eq_true] at h'
    cases m with
    | fz => exact ioSl_mine h'.2 (show i ∈ ioSl ms rs from hi)
    | brw => exact ioSl_mine h'.2 (show i ∈ ioSl ms rs from hi)
    | io =>
      cases r with
      | v d => cases h'.1
      | s j =>
        rcases List.mem_cons.mp (show i ∈ j :: ioSl ms rs from hi) with z | z
        · subst z; exact h'.1
        · exact ioSl_mine h'.2 z
/-- what a call needs of its def -/
theorem call_sp {f : Nat} {ro : Bool} {rs : List RA} {vs : List V} {R : D → Ce → Prop} {Q : VK} (s : StOk K ca g F H σ env) (a : ArgsV K ca F σ vs rs) (h : Post K ca g σ W R (callD T calls f ro rs env))
    (hr : ∀ d env' v F' H', R d env' → StOk K ca g F' H' σ env' → Same F F' → (ro = false → Rp K ca F' v d) → (ro = true → OwnR K ca g F' H' σ env' v d) → Q v H') : spF K ca T calls f vs H Q (WE W σ) := by
  have h' : Post K ca g σ W R (match T.code f with
    | some c => if c.ro = ro ∧ argsOk env c.ms rs = true then (match getAll env rs with
      | some ds => (match calls f ds with
        | some (.ret d outs) => callD.okO' d (putOuts c.ms rs outs env)
        | some (.exc x fs) => some (.ex x fs (dropIo c.ms rs env))
        | none => none)
      | none => none) else none
    | none => none) := h
  cases hc : T.code f with
  | none => rw [hc] at h'; exact h'.elim
  | some c =>
    rw [hc] at h'
    by_cases ho : c.ro = ro ∧ argsOk env c.ms rs = true
    · have h2 : Post K ca g σ W R (match getAll env rs with
        | some ds => (match calls f ds with
          | some (.ret d outs) => callD.okO' d (putOuts c.ms rs outs env)
          | some (.exc x fs) => some (.ex x fs (dropIo c.ms rs env))
          | none => none)
        | none => none) := by
        have := h'
        dsimp only at this
        rwa [if_pos ho] at this
      cases hg : getAll env rs with
      | none => rw [hg] at h2; exact h2.elim
      | some ds =>
        rw [hg] at h2
        dsimp only at h2
        obtain ⟨nd, ok⟩ := argsOk_some ho.2
        have hio := fun x hx => ioSl_mem ok a x hx
        have bk : ∀ {F' H' : Hp}, Back F H F' H' (ioAd c.ms vs) → StOk K ca g F' H' σ (dropIo c.ms rs env) := fun b => s.back hio b
        cases hk : calls f ds with
        | none => rw [hk] at h2; exact h2.elim
        | some r =>
          rw [hk] at h2
          refine ⟨F, c, ds, r, hc, s.fh, argsR_of s hio ok a hg, ioAd_nodup s ok a nd, hk, ?_⟩
          cases r with
          | exc x fs =>
            intro F' H' dd b xd
            exact h2 F' H' dd (bk b) xd
          | ret d os =>
            intro v F' H' b o rr
            have h3 : Post K ca g σ W R (callD.okO' d (putOuts c.ms rs os env)) := h2
            cases hp : putOuts c.ms rs os env with
            | none => rw [hp] at h3; exact h3.elim
            | some env2 =>
              rw [hp] at h3
              have s2 : StOk K ca g F' H' σ env2 := StOk.putOuts (bk b) (fun i c hi hc2 => by
                obtain ⟨c3, q1, q2⟩ := mineAt_some (ioSl_mine ok hi)
                rw [hc2] at q1
                cases q1
                exact stat_of s hc2 q2) s.inj a o nd hp
              refine hr d env2 v F' H' h3 s2 b.ff (fun e => ?_) (fun e => ?_)
              · have rr' : RetR K ca H F' H' c.ro v d := rr
                rw [ho.1, e] at rr'
                exact rr'
              · have rr' : RetR K ca H F' H' c.ro v d := rr
                rw [ho.1, e] at rr'
                obtain ⟨x, ob, rfl, x1, x2, x3, x4⟩ := rr'
                refine ⟨x, ob, rfl, x2, x3, x4, s.dom x x1, fun j cj hj mj q => ?_⟩
                obtain ⟨c2, y1, y2⟩ := putOuts_mine hp hj mj
                obtain ⟨a2, o2, d2, _, w2, w3, _⟩ := s.mine y1 y2
                rw [q] at w2
                cases w2
                rw [x1] at w3
                cases w3
    · have := h'
      dsimp only at this
      rw [if_neg ho] at this
      exact this.elim
theorem tE_call {f : Nat} {as : ACs} {Q : VK} (h : tE K ca T calls W (.call f as) σ H Q) : tAs K ca T calls W as σ H fun vs H' => spF K ca T calls f vs H' Q (WE W σ) := by
  obtain ⟨g, F, env, s, k⟩ := h
  refine ⟨g, F, env, s, Post.mono (fun rs env1 h1 vs F1 H1 s1 f1 a => ?_) (post_bind k)⟩
  exact call_sp s1 a h1 fun d env' v F' H' r s2 ff rp _ => r v F' H' s2 (f1.trans ff) (rp rfl)
theorem tO_call {f : Nat} {as : ACs} {Q : VK} (h : tO K ca T calls W (.call f as) σ H Q) : tAs K ca T calls W as σ H fun vs H' => spF K ca T calls f vs H' Q (WE W σ) := by
  obtain ⟨g, F, env, s, k⟩ := h
  refine ⟨g, F, env, s, Post.mono (fun rs env1 h1 vs F1 H1 s1 f1 a => ?_) (post_bind k)⟩
  exact call_sp s1 a h1 fun d env' v F' H' r s2 ff _ ow => r v F' H' s2 (f1.trans ff) (ow rfl)
theorem methF_some {m : Str} {d : D} {f : Nat} (h : methF T m d = some f) : ∃ c fs, d = .obj c fs ∧ (fs.map Prod.fst).contains m = false ∧ T.meth c m = some f := by
  cases d with
  | obj c fs =>
    have h' : (if (fs.map Prod.fst).contains m = false then T.meth c m else none) = some f := h
    by_cases q : (fs.map Prod.fst).contains m = false
    · rw [if_pos q] at h'; exact ⟨c, fs, rfl, q, h'⟩
    · rw [if_neg q] at h'; cases h'
  | _ => cases h
/-- a method: its receiver is an instance of a class that has it -/
def tMth (m : Str) (a : EC) (as : ACs) : TE := fun σ H Q => tE K ca T calls W a σ H fun x H1 => ∃ c f ad dx fs, T.meth c m = some f ∧ x = .ref ad ∧ H1 ad = some (.ins (ca c) dx fs) ∧ fs.lookup m = none ∧
  tAs K ca T calls W as σ H1 fun vs H2 => spF K ca T calls f (x :: vs) H2 Q (WE W σ)
theorem lookup_none {α : Type} {m : Str} {fs : List (Str × α)} (h : (fs.map Prod.fst).contains m = false) : fs.lookup m = none := by
  cases q : fs.lookup m with
  | none => rfl
  | some v =>
    have := PySem.mem_of_lookup q
    have z : m ∈ fs.map Prod.fst := List.mem_map.mpr ⟨(m, v), this, rfl⟩
    rw [List.contains_iff_mem.mpr z] at h
    cases h
theorem tE_meth {m : Str} {a : EC} {as : ACs} {Q : VK} (h : tE K ca T calls W (.meth m a as) σ H Q) : tMth (K := K) (ca := ca) (T := T) (calls := calls) (W := W) m a as σ H Q := by
  obtain ⟨g, F, env, s, k⟩ := h
  refine ⟨g, F, env, s, Post.mono (fun d env1 h1 v F1 H1 s1 f1 r1 => ?_) (post_bind k)⟩
  cases q : methF T m d with
  | none => rw [q] at h1; exact h1.elim
  | some f =>
    rw [q] at h1
    obtain ⟨c, fs, rfl, h2, h3⟩ := methF_some q
    have r1' := r1
    cases r1' with
    | obj e k1 r =>
      refine ⟨c, f, _, _, _, h3, rfl, s1.fh _ _ e, lookup_none (by rw [k1]; exact h2), ?_⟩
      refine ⟨g, F1, env1, s1, Post.mono (fun rs env2 h4 vs F2 H2 s2 f2 a2 => ?_) (post_bind h1)⟩
      exact call_sp s2 (.cons (r := .v (.obj c fs)) (Rp.mono f2 r1) a2) h4 fun d env' v F' H' r s3 ff rp _ => r v F' H' s3 (f1.trans (f2.trans ff)) (rp rfl)
/-- len of an instance with its own __len__ -/
def tLenO (a : EC) : TE := fun σ H Q => tE K ca T calls W a σ H fun x H1 => ∃ c f ad dx fs, T.meth c "__len__" = some f ∧ x = .ref ad ∧ H1 ad = some (.ins (ca c) dx fs) ∧ fs.lookup ("__len__" : Str) = none ∧
  spF K ca T calls f [x] H1 (fun v H2 => ∃ n : Int, v = .int n ∧ 0 ≤ n ∧ n < 9223372036854775808 ∧ Q (.int n) H2) (WE W σ)
theorem tE_olen {a : EC} {Q : VK} (h : tE K ca T calls W (.olen a) σ H Q) : tLenO (K := K) (ca := ca) (T := T) (calls := calls) (W := W) a σ H Q := by
  obtain ⟨g, F, env, s, k⟩ := h
  refine ⟨g, F, env, s, Post.mono (fun d env1 h1 v F1 H1 s1 f1 r1 => ?_) (post_bind k)⟩
  cases q : methF T "__len__" d with
  | none => rw [q] at h1; exact h1.elim
  | some f =>
    rw [q] at h1
    obtain ⟨c, fs, rfl, h2, h3⟩ := methF_some q
    have r1' := r1
    cases r1' with
    | obj e k1 r =>
      refine ⟨c, f, _, _, _, h3, rfl, s1.fh _ _ e, lookup_none (by rw [k1]; exact h2), ?_⟩
      refine call_sp s1 (.cons (r := .v (.obj c fs)) r1 .nil) (post_bind h1) fun d env' v F' H' r s3 ff rp _ => ?_
      have rp := rp rfl
      cases d with
      | int n =>
        have r' : Post K ca g σ W _ (if 0 ≤ n ∧ n.natAbs < 9223372036854775808 then some (XR.ok (D.int n) env') else none) := r
        by_cases z : 0 ≤ n ∧ n.natAbs < 9223372036854775808
        · rw [if_pos z] at r'
          cases rp
          exact ⟨n, rfl, z.1, by omega, r' _ F' H' s3 (f1.trans ff) (Rp.int n)⟩
        · rw [if_neg z] at r'; exact r'.elim
      | _ => exact r.elim
theorem allV_back : ∀ {rs : List RA} {ds : List D}, allV rs = some ds → rs = ds.map RA.v
  | [], _, e => by cases e; rfl
  | .s i :: rs, _, e => by cases e
  | .v d :: rs, _, e => by
    have e' : (allV rs).map (fun x => d :: x) = some _ := e
    cases q : allV rs with
    | none => rw [q] at e'; cases e'
    | some es => rw [q] at e'; cases e'; rw [allV_back q]; rfl
theorem argsR_fz {H : Hp} {ios : List Addr} : ∀ {vs : List V} {ds : List D} {rs : List RA}, Rps K ca F vs ds → rs.length = ds.length → ArgsR K ca F H ios (rs.map fun _ => Md.fz) vs ds
  | _, _, [], .nil, _ => .nil
  | _, _, _ :: _, .nil, e => by cases e
  | _, _, [], .cons _ _, e => by cases e
  | _, _, r :: rs, .cons h t, e => .cons h (argsR_fz t (by simpa using e))
theorem ioAd_fz : ∀ (rs : List RA) (vs : List V), ioAd (rs.map fun _ => Md.fz) vs = []
  | [], _ => by cases ‹List V› <;> rfl
  | _ :: _, [] => rfl
  | _ :: rs, _ :: vs => ioAd_fz rs vs
theorem outs_fz {F' H' : Hp} : ∀ (rs : List RA) (vs : List V) (ds : List D), OutsR K ca F' H' (rs.map fun _ => Md.fz) vs ds → ds = []
  | [], _, _, h => h
  | _ :: _, [], _, h => h.elim
  | _ :: rs, _ :: vs, ds, h => outs_fz rs vs ds h
/-- C(..) -/
def tNew (c : Nat) (as : ACs) : TE := fun σ H Q => tAs K ca T calls W as σ H fun vs H1 => ∃ f, T.init c = some f ∧ ∀ x dx, H1 x = none → H1 dx = none → dx ≠ x →
  spF K ca T calls f (.ref x :: vs) (upd (upd H1 dx (.own x)) x (.ins (ca c) dx [])) (fun v H2 => v = .non ∧ Q (.ref x) H2) (WE W σ)
theorem tE_new {c : Nat} {as : ACs} {Q : VK} (h : tE K ca T calls W (.new c as) σ H Q) : tNew (K := K) (ca := ca) (T := T) (calls := calls) (W := W) c as σ H Q := by
  obtain ⟨g, F, env, s, k⟩ := h
  refine ⟨g, F, env, s, Post.mono (fun rs env1 h1 vs F1 H1 s1 f1 a => ?_) (post_bind k)⟩
  have h1' : Post K ca g σ W _ (match T.init c with
    | some f => (match T.code f with
      | some k => if k.ro = false ∧ k.ms = .io :: rs.map (fun _ => .fz) then (match allV rs with
        | some ds => (match calls f (.obj c [] :: ds) with
          | some (.ret .non [o]) => some (.ok o env1)
          | some (.exc x fs) => some (.ex x fs env1)
          | _ => none)
        | none => none) else none
      | none => none)
    | none => none) := h1
  cases hi : T.init c with
  | none => rw [hi] at h1'; exact h1'.elim
  | some f =>
    rw [hi] at h1'
    dsimp only at h1'
    cases hc : T.code f with
    | none => rw [hc] at h1'; exact h1'.elim
    | some k =>
      rw [hc] at h1'
      dsimp only at h1'
      by_cases ho : k.ro = false ∧ k.ms = .io :: rs.map (fun _ => .fz)
      · rw [if_pos ho] at h1'
        cases hv : allV rs with
        | none => rw [hv] at h1'; exact h1'.elim
        | some ds =>
          rw [hv] at h1'
          dsimp only at h1'
          refine ⟨f, rfl, fun x dx hx hdx hne => ?_⟩
          have rps := a.allV hv
          have hl : rs.length = ds.length := by rw [allV_back hv, List.length_map]
          have hx1 : upd H1 dx (.own x) x = none := by rw [upd_ne (Ne.symm hne)]; exact hx
          have s2 : StOk K ca g F1 (upd (upd H1 dx (.own x)) x (.ins (ca c) dx [])) σ env1 := (s1.ext (Ext.newH (o := .own x) s1.fh hdx)).ext (Ext.newH (o := .ins (ca c) dx []) (s1.ext (Ext.newH (o := .own x) s1.fh hdx)).fh hx1)
          have hio : ioAd k.ms (.ref x :: vs) = [x] := by
            rw [ho.2]
            show x :: ioAd (rs.map fun _ => Md.fz) vs = _
            rw [ioAd_fz]
          have nx : ∀ (j : Nat) (cj : Cell), env1[j]? = some cj → cj.mine = true → σ[j]? ≠ some (some (.ref x)) := fun j cj hj mj q => by
            obtain ⟨a2, o2, d2, _, w2, w3, _⟩ := s1.mine hj mj
            rw [q] at w2
            cases w2
            rw [hx] at w3
            cases w3
          have bk : ∀ {F' H' : Hp}, Back F1 (upd (upd H1 dx (.own x)) x (.ins (ca c) dx [])) F' H' [x] → StOk K ca g F' H' σ env1 := fun {F' H'} b => by
            have fn : ∀ a o, (upd (upd H1 dx (.own x)) x (.ins (ca c) dx [])) a = some o → F1 a = none → F' a = none := fun a o h1 h2 => by
              cases q : F' a with
              | none => rfl
              | some u =>
                rcases b.nw a u q with z | z
                · rw [h2] at z; cases z
                · rw [h1] at z; cases z
            have gx : ∀ a o, g.G a = some o → a ∉ [x] := fun a o h1 h2 => by
              rw [List.mem_singleton] at h2
              subst h2
              have := s1.gh _ _ h1
              rw [hx] at this
              cases this
            refine ⟨b.fh, fun a o h => b.hh a o (s2.gh a o h) (gx a o h), s2.g0, s2.bg, s2.f0.trans b.ff, fun a o h => ?_, fun a h => s2.dom a (b.dm a h), s2.len, fun j cj h => ?_, s2.inj⟩
            · rcases b.nw a o h with q | q
              · exact s2.fr a o q
              · exact .inr (s2.dom a q)
            · obtain ⟨ov, q1, q2⟩ := s2.cel j cj h
              refine ⟨ov, q1, ?_⟩
              have nm : ∀ a, cj.mine = true → ov = some (.ref a) → a ∉ [x] := fun a m e z => by
                rw [List.mem_singleton] at z
                subst z
                exact nx j cj h m (by rw [q1, e])
              cases cj with
              | emp => trivial
              | fz d => obtain ⟨v, e1, r⟩ := q2; exact ⟨v, e1, r.mono b.ff⟩
              | own d =>
                obtain ⟨a, o, e1, z1, z2, z3, z4⟩ := q2
                exact ⟨a, o, e1, b.hh a o z1 (nm a rfl e1), z2.mono b.ff, fn a o z1 z3, z4⟩
              | brw d =>
                obtain ⟨v, e1, r⟩ := q2
                refine ⟨v, e1, ?_⟩
                rcases r with r | ⟨a, o, e2, z1, z2⟩
                · exact .inl (r.mono b.ff)
                · exact .inr ⟨a, o, e2, z1, z2.mono b.ff⟩
              | io d =>
                obtain ⟨a, o, e0, e1, z1, z2, z3, z4⟩ := q2
                exact ⟨a, o, e0, e1, b.hh a o z1 (nm a rfl e1), z2.mono b.ff, fn a o z1 z3, z4⟩
          cases hk : calls f (.obj c [] :: ds) with
          | none => rw [hk] at h1'; exact h1'.elim
          | some r =>
            rw [hk] at h1'
            refine ⟨F1, k, .obj c [] :: ds, r, hc, s2.fh, ?_, by rw [hio]; exact List.nodup_cons.mpr ⟨by simp, List.nodup_nil⟩, hk, ?_⟩
            · rw [ho.2]
              exact .cons ⟨x, _, rfl, upd_same, .obj (fs := []) (ds := []) rfl .nil, s1.fh.free hx⟩ (argsR_fz rps hl)
            · cases r with
              | exc y fs =>
                intro F' H' dd b xd
                rw [hio] at b
                exact h1' F' H' dd (bk b) xd
              | ret d os =>
                intro v F' H' b o rr
                rw [hio] at b
                rw [ho.1] at rr
                cases d with
                | non =>
                  cases os with
                  | nil => exact h1'.elim
                  | cons o1 os =>
                    cases os with
                    | cons _ _ => exact h1'.elim
                    | nil =>
                      have rr' : Rp K ca F' v .non := rr
                      cases rr'
                      refine ⟨rfl, ?_⟩
                      rw [ho.2] at o
                      obtain ⟨⟨a3, ob, e3, y1, y2, y3⟩, _⟩ := (show (∃ a o, V.ref x = .ref a ∧ H' a = some o ∧ Ob K ca F' o o1 ∧ F' a = none) ∧ OutsR K ca F' H' (rs.map fun _ => Md.fz) vs [] from o)
                      cases e3
                      obtain ⟨s4, ff, rp⟩ := (bk b).freeze y1 y2 y3 (s1.dom x hx) nx
                      exact h1' _ _ _ s4 (f1.trans (b.ff.trans ff)) rp
                | _ => exact h1'.elim
      · rw [if_neg ho] at h1'; exact h1'.elim
end
end DV


set_option maxRecDepth 100000
set_option maxHeartbeats 4000000
/-! DV9: the rules for calls; a def's body keeps the def's promise. -/
namespace DV
open PySem PySem.Spec PyProof.Rows L2

section
variable {X : Cx} {k : Nat} {fa C : Addr} {fd : FuncData} {ps ks : List Str} {sp : Sp} {W : WX}
theorem FnG.mono {P : Program} {w : World} {K : PySem.W.Frag} {mg : Str → Option Value} {base : Heap} {j : Nat} (G : FnG P w K mg base j fa fd ps sp) (h : j ≤ k) : FnG P w K mg base k fa fd ps sp :=
  ⟨G.len, fun A fr s H args us vs Q E hr => G.go A fr s H args us vs Q E (hr.mono h)⟩
/-- how a call that stands in X ends -/
theorem back_of {pins : List (Addr × Obj)} {σ : L2.St} {H : Hp} {s : Shared} {Q : VK} (tk : Takes X W) (I : Inv X pins σ H s) {r : Result} {s' : Shared} (hq : CR (L2.CX X.prog X.w) X.stack X.prog X.w H s Q (WE W σ) r s') :
    wants (EP X pins σ Q) X.xe r s' := by
  cases r with
  | error e => exact passAt tk σ pins H s e s' I hq
  | ok fl =>
    cases fl with
    | ret u => exact I.after hq
    | _ => exact False.elim hq
theorem run_G {pins : List (Addr × Obj)} {σ : L2.St} {H : Hp} {s : Shared} {Q : VK} {us : List Value} {vs dvs : List V} {dus : List Value} (G : FnG X.prog X.w X.K X.mg X.base k fa fd ps sp) (hr : Room k X.A) (hg : X.A.guards = some []) (hb : Binds X.K fd ps dus) (hd : Vals dvs dus)
    (tk : Takes X W) (I : Inv X pins σ H s) (r : Vals vs us) (h : sp (vs ++ dvs) H Q (WE W σ)) : wpAny (model X.prog X.w) X.A (call (.ref fa) us) (EP X pins σ Q) X.xe s := by
  have rr := r.append hd
  have hl := G.len _ _ _ _ h
  rw [rr.length] at hl
  exact wpAny_call (codeAny_mono (G.go X.A X.stack s H ⟨us, []⟩ (us ++ dus) (vs ++ dvs) Q _ hr hg I.env0 (hb s us I.kIn hl) rr h) fun r s' hq => back_of tk I hq)
/-- the same one builtin deeper -/
theorem run_G1 {pins : List (Addr × Obj)} {σ : L2.St} {H : Hp} {s : Shared} {Q : VK} {us : List Value} {vs : List V} (G : FnG X.prog X.w X.K X.mg X.base k fa fd ps sp) (hr : Room (k + 1) X.A) (hg : X.A.guards = some []) (hb : Binds X.K fd ps [])
    (tk : Takes X W) (I : Inv X pins σ H s) (r : Vals vs us) (h : sp vs H Q (WE W σ)) : wpAny (model X.prog X.w) X.A.in1 (call (.ref fa) us) (EP X pins σ Q) X.xe s := by
  have hl := G.len _ _ _ _ h
  rw [r.length] at hl
  have b := hb s us I.kIn (by rw [List.append_nil]; exact hl)
  rw [List.append_nil] at b
  exact wpAny_call (codeAny_mono (G.go X.A.in1 X.stack s H ⟨us, []⟩ us vs Q _ hr.in1 hg I.env0.in1 b r h) fun r s' hq => back_of tk I hq)
theorem run_GK {pins : List (Addr × Obj)} {σ : L2.St} {H : Hp} {s : Shared} {Q : VK} {us ws : List Value} {vs zs : List V} {f1 : List Value → List Value → List Value} {f2 : List V → List V → List V} (G : FnG X.prog X.w X.K X.mg X.base k fa fd ps sp) (hr : Room k X.A) (hg : X.A.guards = some [])
    (hb : KBinds X.K fd ps ks f1 f2) (tk : Takes X W) (I : Inv X pins σ H s) (r : Vals vs us) (rz : Vals zs ws) (h : sp (f2 vs zs) H Q (WE W σ)) : wpAny (model X.prog X.w) X.A (call (.ref fa) us (ks.zip ws)) (EP X pins σ Q) X.xe s := by
  have rr := hb.rel r rz
  have hl := G.len _ _ _ _ h
  rw [rr.length] at hl
  exact wpAny_call (codeAny_mono (G.go X.A X.stack s H ⟨us, ks.zip ws⟩ (f1 us ws) (f2 vs zs) Q _ hr hg I.env0 (hb.to s us ws I.kIn hl) rr h) fun r s' hq => back_of tk I hq)
theorem run_GM {pins : List (Addr × Obj)} {σ : L2.St} {H : Hp} {s : Shared} {Q : VK} {us : List Value} {vs : List V} (M : Mk X.K C fa) (G : FnG X.prog X.w X.K X.mg X.base k fa fd ps sp) (hr : Room (k + 1) X.A) (hg : X.A.guards = some []) (hb : Binds X.K fd ps [])
    (tk : Takes X W) (I : Inv X pins σ H s) (r : Vals vs us)
    (h : ∀ x dx, H x = none → H dx = none → dx ≠ x → sp (.ref x :: vs) (upd (upd H dx (.own x)) x (.ins C dx [])) (fun v H2 => v = .non ∧ Q (.ref x) H2) (WE W σ)) : wpAny (model X.prog X.w) X.A (call (.ref C) us) (EP X pins σ Q) X.xe s := by
  have z := h (s.heap.objs.size + 1) s.heap.objs.size (I.hok.fresh (Nat.le_succ _)) (I.hok.fresh (Nat.le_refl _)) (Nat.ne_of_lt (Nat.lt_succ_self _))
  have J := Inv.made (C := C) I
  have rr : Vals (.ref (s.heap.objs.size + 1) :: vs) (.ref (s.heap.objs.size + 1) :: us) := .cons rfl r
  have hl := G.len _ _ _ _ z
  rw [rr.length] at hl
  have b := hb _ (.ref (s.heap.objs.size + 1) :: us) J.kIn (by rw [List.append_nil]; exact hl)
  rw [List.append_nil] at b
  refine wpAny_call (make_map (f := fa) I.kIn M.makes M.init (beq_iff_eq.mp M.fn) (codeAny_mono (G.go _ X.stack _ _ ⟨_, []⟩ _ _ _ _ (hr.make C us []) ?_ (J.env0.make C us []) b rr z) fun r s' hq => ?_))
  · unfold Around.under
    dsimp only
    rw [hg, Code.guards, if_neg (by
      show ¬ (guardIds.contains "type.__call__") = true
      decide +kernel)]
    rfl
  · have q := back_of tk J hq
    cases r with
    | error e => exact q
    | ok fl =>
      cases fl with
      | ret u =>
        obtain ⟨v, H', I3, rv, ev, q3⟩ := q
        subst ev
        exact ⟨rv, ⟨V.ref (s.heap.objs.size + 1), H', I3, rfl, q3⟩⟩
      | _ => exact False.elim hq
end

section
variable {X : Cx} {k : Nat} {fa C : Addr} {fd : FuncData} {ps ks : List Str} {W : WX} {ca : Nat → Addr} {T : Tab} {calls : Calls} {x m : Str} {p pos apos : Pos} {e o : Expr} {es : List Expr} {f c : Nat} {as : ACs}
/-- what is asked where a def is called: the def, the room, no guards -/
structure Go (X : Cx) (ca : Nat → Addr) (T : Tab) (calls : Calls) (W : WX) (k : Nat) : Prop where
  room : Room (k + 1) X.A
  grd : X.A.guards = some []
  tk : Takes X W
/-- the def f stands at fa -/
abbrev FnD (X : Cx) (ca : Nat → Addr) (T : Tab) (calls : Calls) (k f : Nat) (fa : Addr) (fd : FuncData) (ps : List Str) : Prop := FnG X.prog X.w X.K X.mg X.base k fa fd ps (spF X.K ca T calls f)
theorem pe_G {t : TA} {sp : Sp} (go : Go X ca T calls W k) (G : FnG X.prog X.w X.K X.mg X.base k fa fd ps sp) (hg : Gl X x) (hm : X.mg x = some (.ref fa)) (hk : PySem.W.keepIn X.K (.ref fa) = true) (hb : Binds X.K fd ps []) (ha : PA X (e :: es) t)
    (hdb : (x == ("__debug__" : Str)) = false := by decide) (he : starEach (e :: es) X.env = (false, eval e X.env) :: starEach es X.env := by rfl) (hpl : (backTo pos (starEach es X.env)).any (·.1) = false := by rfl) :
    PE X (.Call (.Name x p) (e :: es) [] pos) (fun σ H Q => t σ H fun vs H1 => sp vs H1 Q (WE W σ)) := ⟨fun pins s σ H Q I h => by
  refine wpAny_Call_Name_kw (ld_glob I hg hm ?_ hdb)
  refine PySem.W.callWith_K (h₀ := X.base) I.ok.mod.kin hk (thn (ha.run pos pins s σ H _ I h) fun us s1 ⟨vs, H1, J, r, q⟩ => ⟨J.kIn, ?_⟩) he hpl
  exact run_G (dvs := []) (dus := []) G (go.room.mono (Nat.le_succ _)) go.grd hb .nil go.tk J r (by rw [List.append_nil]; exact q)⟩
theorem pe_G0 {sp : Sp} (go : Go X ca T calls W k) (G : FnG X.prog X.w X.K X.mg X.base k fa fd ps sp) (hg : Gl X x) (hm : X.mg x = some (.ref fa)) (hk : PySem.W.keepIn X.K (.ref fa) = true) (hb : Binds X.K fd ps [])
    (hdb : (x == ("__debug__" : Str)) = false := by decide) : PE X (.Call (.Name x p) [] [] pos) (fun σ H Q => sp [] H Q (WE W σ)) := ⟨fun pins s σ H Q I h => by
  refine wpAny_Call_Name_kw (ld_glob I hg hm ?_ hdb)
  exact PySem.W.callWith_K0 I.kIn hk (run_G (us := []) (dvs := []) (dus := []) G (go.room.mono (Nat.le_succ _)) go.grd hb .nil go.tk I .nil h)⟩
theorem de_call (go : Go X ca T calls W k) (G : FnD X ca T calls k f fa fd ps) (hg : Gl X x) (hm : X.mg x = some (.ref fa)) (hk : PySem.W.keepIn X.K (.ref fa) = true) (hb : Binds X.K fd ps []) (ha : DAs X W ca T calls (e :: es) as)
    (hdb : (x == ("__debug__" : Str)) = false := by decide) (he : starEach (e :: es) X.env = (false, eval e X.env) :: starEach es X.env := by rfl) (hpl : (backTo pos (starEach es X.env)).any (·.1) = false := by rfl) :
    DE X W ca T calls (.Call (.Name x p) (e :: es) [] pos) (.call f as) := PE.imp (pe_G go G hg hm hk hb ha hdb he hpl) fun σ H Q h => tE_call h
theorem do_call (go : Go X ca T calls W k) (G : FnD X ca T calls k f fa fd ps) (hg : Gl X x) (hm : X.mg x = some (.ref fa)) (hk : PySem.W.keepIn X.K (.ref fa) = true) (hb : Binds X.K fd ps []) (ha : DAs X W ca T calls (e :: es) as)
    (hdb : (x == ("__debug__" : Str)) = false := by decide) (he : starEach (e :: es) X.env = (false, eval e X.env) :: starEach es X.env := by rfl) (hpl : (backTo pos (starEach es X.env)).any (·.1) = false := by rfl) :
    DO X W ca T calls (.Call (.Name x p) (e :: es) [] pos) (.call f as) := PE.imp (pe_G go G hg hm hk hb ha hdb he hpl) fun σ H Q h => tO_call h
/-- only keywords, in the parameters' order -/
theorem de_callK {kws : List Keyword} {f1 : List Value → List Value → List Value} (go : Go X ca T calls W k) (G : FnD X ca T calls k f fa fd ps) (hg : Gl X x) (hm : X.mg x = some (.ref fa)) (hk : PySem.W.keepIn X.K (.ref fa) = true)
    (hb : KBinds X.K fd ps ks f1 fun _ zs => zs) (ha : PK X kws (tAs X.K ca T calls W as))
    (hc : ∀ {Q : Value → Shared → Prop} {s : Shared} {E : Value → Shared → Prop}, wpAny (model X.prog X.w) X.A (evalAll ((backToKw pos (keywordEach kws X.env)).map (·.2))) (fun ws s' => X.K.In s'.heap ∧ wpAny (model X.prog X.w) X.A (call (.ref fa) [] (ks.zip ws)) Q E s') E s →
      X.K.In s.heap → wpAny (model X.prog X.w) X.A (callWith pos (.ref fa) [] (backTo pos (starEach [] X.env)) (backToKw pos (keywordEach kws X.env))) Q E s)
    (hdb : (x == ("__debug__" : Str)) = false := by decide) : DE X W ca T calls (.Call (.Name x p) [] kws pos) (.call f as) := ⟨fun pins s σ H Q I h => by
  refine wpAny_Call_Name_kw (ld_glob I hg hm ?_ hdb)
  refine hc (thn (ha.run pos pins s σ H _ I (tE_call h)) fun ws s1 ⟨zs, H1, J, r, q⟩ => ⟨J.kIn, ?_⟩) I.kIn
  exact run_GK (vs := []) (us := []) G (go.room.mono (Nat.le_succ _)) go.grd hb go.tk J .nil r q⟩
/-- the methods of the program's classes stand where T says -/
structure MethD (X : Cx) (ca : Nat → Addr) (T : Tab) (calls : Calls) (k : Nat) (m : Str) : Prop where
  to : ∀ c f, T.meth c m = some f → Cls X.K (ca c) ∧ ∃ fa fd ps, Meth X.K (ca c) m fa ∧ FnD X ca T calls k f fa fd ps ∧ Binds X.K fd ps []
theorem de_meth {pl : Sem Bool} {a : EC} (go : Go X ca T calls W k) (M : MethD X ca T calls k m) (hr : DE X W ca T calls o a) (ha : DAs X W ca T calls (e :: es) as)
    (hst : starEach (e :: es) X.env = (false, eval e X.env) :: starEach es X.env := by rfl) (hpl : (backTo pos (starEach es X.env)).any (·.1) = false := by rfl)
    (ht : eval (.Call (.Attribute o m apos) (e :: es) [] pos) X.env = (do
      let ov ← eval o X.env; standAt apos.atName
      let (f, first) ← holding [ov] (getMethod ov m pl); callWith pos f first (backTo pos (starEach (e :: es) X.env)) (backToKw pos (keywordEach [] X.env))) := by rfl) :
    DE X W ca T calls (.Call (.Attribute o m apos) (e :: es) [] pos) (.meth m a as) := ⟨fun pins s σ H Q I h => by
  refine PySem.W.methodCall_KW (pl := pl) (thn (hr.run pins s σ H _ I (tE_meth h)) fun u s1 ⟨x, H1, I1, rx, c, f, ad, dx, fs, hT, ex, ea, l, q⟩ => ?_) ht
  subst ex
  obtain rfl : u = Value.ref ad := rx
  obtain ⟨cl, fa, fd, ps, hm, G, hb⟩ := M.to c f hT
  refine getmeth_ok I1 ea cl hm l ?_
  refine PySem.W.callWith_K (first := [.ref ad]) (h₀ := X.base) I.ok.mod.kin hm.kp (thn (ha.run pos pins s1 σ H1 _ I1 q) fun us s2 ⟨vs, H2, J, r, q2⟩ => ⟨J.kIn, ?_⟩) hst hpl
  exact run_G (us := .ref ad :: us) (vs := .ref ad :: vs) (dvs := []) (dus := []) G (go.room.mono (Nat.le_succ _)) go.grd hb .nil go.tk J (.cons rfl r) (by rw [List.append_nil]; exact q2)⟩
theorem de_meth0 {pl : Sem Bool} {a : EC} (go : Go X ca T calls W k) (M : MethD X ca T calls k m) (hr : DE X W ca T calls o a)
    (ht : eval (.Call (.Attribute o m apos) [] [] pos) X.env = (do
      let ov ← eval o X.env; standAt apos.atName
      let (f, first) ← holding [ov] (getMethod ov m pl); callWith pos f first (backTo pos (starEach [] X.env)) (backToKw pos (keywordEach [] X.env))) := by rfl) :
    DE X W ca T calls (.Call (.Attribute o m apos) [] [] pos) (.meth m a .nil) := ⟨fun pins s σ H Q I h => by
  refine PySem.W.methodCall_KW (pl := pl) (thn (hr.run pins s σ H _ I (tE_meth h)) fun u s1 ⟨x, H1, I1, rx, c, f, ad, dx, fs, hT, ex, ea, l, q⟩ => ?_) ht
  subst ex
  obtain rfl : u = Value.ref ad := rx
  obtain ⟨cl, fa, fd, ps, hm, G, hb⟩ := M.to c f hT
  refine getmeth_ok I1 ea cl hm l ?_
  exact PySem.W.callWith_K0 (first := [.ref ad]) I1.kIn hm.kp (run_G (us := [.ref ad]) (vs := [.ref ad]) (dvs := []) (dus := []) G (go.room.mono (Nat.le_succ _)) go.grd hb .nil go.tk I1 (.cons rfl .nil) (tAs_nil q))⟩
/-- len of an instance -/
theorem de_olen {a : EC} (go : Go X ca T calls W k) (M : MethD X ca T calls k "__len__") (hg : Gl X x) (hm : X.mg x = none) (hv : bootBuiltins x = some (.builtin "len")) (hr : DE X W ca T calls e a)
    (hn2 : x ≠ "__name__" := by decide) (hdb : (x == ("__debug__" : Str)) = false := by decide) (he : starEach [e] X.env = (false, eval e X.env) :: starEach [] X.env := by rfl) : DE X W ca T calls (.Call (.Name x p) [e] [] pos) (.olen a) := ⟨fun pins s σ H Q I h => by
  refine wpAny_Call_Name_kw (ld_blt I hg hm hv ?_ hn2 hdb)
  refine PyProof.Rows.callWith_builtin1 (thn ((pa_cons hr pa_nil he).run pos pins s σ H (fun vs H1 => ∃ v, vs = [v] ∧ _) I (tE_olen' h)) fun us s1 ⟨vs, H1, J, r, v, e1, c, f, ad, dx, fs, hT, ex, ea, l, q⟩ => ?_) he rfl
  subst e1
  obtain ⟨u, rfl, ru⟩ := vals1 r
  subst ex
  obtain rfl : u = Value.ref ad := ru
  obtain ⟨cl, fa, fd, ps, hm, G, hb⟩ := M.to c f hT
  obtain ⟨mA, OM, hro, _⟩ := ins_get J.hok ea
  obtain ⟨od, IA, hlk⟩ := OM.look
  refine Calls.call_function_entry kind_len plain_len entry_len (args_len1 _) ?_
  unfold Builtin.«len»
  refine wpAny_bind (m := oneArg "len" _) (wpAny_pure ?_)
  refine wpAny_bind (m := callSpecial? (.ref ad) (PySem.Str.ofString "__len__")) ?_
  unfold callSpecial? specialOf
  refine wpAny_bind (wpAny_bind (IA.type.here ((PySem.W.looks_findIn J.kIn hm.at_).here ?_)))
  refine wpAny_holding ?_
  refine wpAny_bind ((PySem.W.bind_fn J.kIn _ (beq_iff_eq.mp hm.fn)).here ?_)
  refine wpAny_bind (wpAny_mono (run_G1 (us := [.ref ad]) (vs := [.ref ad]) G go.room go.grd hb go.tk J (.cons rfl .nil) q) (fun v s' hq => wpAny_pure ?_) fun _ _ z => z)
  obtain ⟨y, H2, J2, ry, n, rfl, h0, h1, q2⟩ := hq
  obtain ⟨t, rfl⟩ := ry
  refine wpAny_bind (wpAny_holding (wpAny_pure ?_))
  refine wpAny_bind (wpAny_letGo ?_)
  show wpAny _ _ (if n < 0 then _ else _) _ _ _
  rw [if_neg (by omega)]
  show wpAny _ _ (if n ≥ 2 ^ 63 then _ else _) _ _ _
  rw [if_neg (by omega)]
  exact wpAny_bind (wpAny_mkInt (wpAny_pure ⟨_, rfl, ⟨.int n, H2, J2.tok _, ⟨_, rfl⟩, q2⟩⟩))⟩
where
  tE_olen' {σ : L2.St} {H : Hp} {Q : VK} {a : EC} (h : tE X.K ca T calls W (.olen a) σ H Q) : tCons (tE X.K ca T calls W a) tNil σ H fun vs H1 => ∃ v, vs = [v] ∧ ∃ c f ad dx fs, T.meth c "__len__" = some f ∧ v = .ref ad ∧ H1 ad = some (.ins (ca c) dx fs) ∧ fs.lookup ("__len__" : Str) = none ∧
      spF X.K ca T calls f [v] H1 (fun v H2 => ∃ n : Int, v = .int n ∧ 0 ≤ n ∧ n < 9223372036854775808 ∧ Q (.int n) H2) (WE W σ) :=
    tA1.mono (.e a) σ H _ _ (fun v H1 h1 => ⟨v, rfl, h1⟩) (tE_olen h)
/-- C(..): the class c stands at C, its __init__ at fa -/
theorem de_new (go : Go X ca T calls W k) (M : Mk X.K C fa) (hC : ca c = C) (hi : T.init c = some f) (G : FnD X ca T calls k f fa fd ps) (hg : Gl X x) (hm : X.mg x = some (.ref C)) (hb : Binds X.K fd ps []) (ha : DAs X W ca T calls (e :: es) as)
    (hdb : (x == ("__debug__" : Str)) = false := by decide) (he : starEach (e :: es) X.env = (false, eval e X.env) :: starEach es X.env := by rfl) (hpl : (backTo pos (starEach es X.env)).any (·.1) = false := by rfl) :
    DE X W ca T calls (.Call (.Name x p) (e :: es) [] pos) (.new c as) := ⟨fun pins s σ H Q I h => by
  refine wpAny_Call_Name_kw (ld_glob I hg hm ?_ hdb)
  refine PySem.W.callWith_K (h₀ := X.base) I.ok.mod.kin M.kp (thn (ha.run pos pins s σ H _ I (tE_new h)) fun us s1 ⟨vs, H1, J, r, f', e1, q⟩ => ⟨J.kIn, ?_⟩) he hpl
  rw [hi] at e1
  cases e1
  subst hC
  exact run_GM M G go.room go.grd hb go.tk J r q⟩
end
end DV


set_option maxRecDepth 100000
set_option maxHeartbeats 4000000
/-! DV10: what is walked: lists, tuples, texts; enumerate and zip of any of them. -/
namespace DV
open PySem PySem.Spec PyProof.Rows L2

/-- what can be walked -/
inductive SK where
  | lst (a : Addr) | tup (a : Addr) | str (z : Str)
def chrs (z : Str) : List V := z.cps.toList.map fun c => .str ⟨#[c]⟩
namespace SK
def val : SK → V
  | lst a => .ref a
  | tup a => .ref a
  | str z => .str z
def at_ (K : PySem.W.Frag) (H : Hp) : SK → List V → Prop
  | lst a, xs => SqL K H a xs
  | tup a, xs => SqT K H a xs
  | str z, xs => xs = chrs z
def adr : SK → List Addr
  | lst a => [a]
  | tup a => [a]
  | str _ => []
/-- its iterator at the address j, at turn i -/
def itr (t : Tok) (j : Addr) (i : Nat) (h : Heap) : SK → Prop
  | lst a => h.IsListIter j a i
  | tup a => h.IsTupleIter j a i
  | str z => h.IsStrIter j (strIterType z) z t i
end SK
section
variable {X : Cx} {pins : List (Addr × Obj)} {σ : L2.St} {H : Hp} {s : Shared} {xs ys : List V}
theorem SK.inj {k : SK} (I : Inv X pins σ H s) (h : k.at_ X.K H xs) (h' : k.at_ X.K H ys) : xs = ys := by
  cases k with
  | lst a => exact I.list_inj h h'
  | tup a => exact I.tuple_inj h h'
  | str z => exact (show xs = chrs z from h).trans (show ys = chrs z from h').symm
theorem SK.there {k : SK} {t : Tok} {j : Addr} {i : Nat} {h : Heap} (q : k.itr t j i h) : ∃ o, h.get? j = some o ∧ ∀ v, o.data ≠ .cell v := by
  cases k with
  | lst a => obtain ⟨o, e, _, d⟩ := q; exact ⟨o, e, fun v z => by rw [d] at z; cases z⟩
  | tup a => obtain ⟨o, e, _, d⟩ := q; exact ⟨o, e, fun v z => by rw [d] at z; cases z⟩
  | str z => obtain ⟨o, e, _, d⟩ := q; exact ⟨o, e, fun v z => by rw [d] at z; cases z⟩
theorem SK.itr_at {k : SK} {t : Tok} {j : Addr} {i : Nat} {h h' : Heap} (q : k.itr t j i h) (e : ∀ o, h.get? j = some o → h'.get? j = some o) : k.itr t j i h' := by
  cases k with
  | lst a => obtain ⟨o, z, r⟩ := q; exact ⟨o, e o z, r⟩
  | tup a => obtain ⟨o, z, r⟩ := q; exact ⟨o, e o z, r⟩
  | str z => obtain ⟨o, z, r⟩ := q; exact ⟨o, e o z, r⟩
theorem vals_back {us : List Value} (r : Vals xs us) {i : Nat} {u : Value} (e : us.toArray[i]? = some u) : ∃ x, xs[i]? = some x ∧ RelV x u := by
  have e' : us[i]? = some u := by simpa using e
  have hi : i < us.length := (List.getElem?_eq_some_iff.mp e').1
  have hi' : i < xs.length := by rw [r.length]; exact hi
  obtain ⟨u2, h1, h2⟩ := r.get (List.getElem?_eq_getElem hi')
  rw [e'] at h1
  cases h1
  exact ⟨_, List.getElem?_eq_getElem hi', h2⟩
/-- what its iterator draws -/
theorem SK.draws {k : SK} (t : Tok) {j : Addr} (I : Inv X pins σ H s) (h : k.at_ X.K H xs) (hj : j ∉ k.adr) :
    ∃ (P : Nat → Value → Prop) (S : Nat → Heap → Prop), (∀ A : Around, A.handled = none → Draws X.prog X.w A j (j :: k.adr) xs.length P S) ∧ (∀ i, k.itr t j i s.heap → S i s.heap) ∧ (∀ i h', S i h' → k.itr t j i h') ∧ ∀ i v, P i v → ∃ x, xs[i]? = some x ∧ RelV x v := by
  cases k with
  | lst a =>
    obtain ⟨us, rv, p, _⟩ := I.list h
    have ha : a ≠ j := fun e => hj (by subst e; exact List.mem_singleton.mpr rfl)
    refine ⟨fun i v => us.toArray[i]? = some v, fun i h => h.IsListIter j a i ∧ h.IsList a us.toArray, fun A hh => ?_, fun i q => ⟨q, p.isList⟩, fun i h' q => q.1, fun i v e => vals_back rv e⟩
    have D := Draws.list (prog := X.prog) (w := X.w) hh j a ha us.toArray
    rw [List.size_toArray, ← rv.length] at D
    exact D
  | tup a =>
    obtain ⟨us, rv, p, _⟩ := I.tuple h
    have ha : a ≠ j := fun e => hj (by subst e; exact List.mem_singleton.mpr rfl)
    refine ⟨fun i v => us.toArray[i]? = some v, fun i h => h.IsTupleIter j a i ∧ h.IsTuple a us.toArray, fun A hh => ?_, fun i q => ⟨q, p⟩, fun i h' q => q.1, fun i v e => vals_back rv e⟩
    have D := Draws.tuple (prog := X.prog) (w := X.w) hh j a ha us.toArray
    rw [List.size_toArray, ← rv.length] at D
    exact D
  | str z =>
    have e : xs = chrs z := h
    subst e
    refine ⟨fun i v => ∃ c u, z.cps[i]? = some c ∧ v = .str ⟨#[c]⟩ u, fun i h => h.IsStrIter j (strIterType z) z t i, fun A hh => ?_, fun i q => q, fun i h' q => q, fun i v e => ?_⟩
    · have D := Draws.text (prog := X.prog) (w := X.w) hh j z t
      have hl : (chrs z).length = z.cps.size := by rw [chrs, List.length_map, Array.length_toList]
      rw [hl]
      exact D
    · obtain ⟨c, u, e1, rfl⟩ := e
      refine ⟨.str ⟨#[c]⟩, ?_, ⟨u, rfl⟩⟩
      rw [chrs, List.getElem?_map, Array.getElem?_toList, e1]
      rfl
/-- .. and how it begins -/
theorem SK.begins {k : SK} {u : Value} (I : Inv X pins σ H s) (h : k.at_ X.K H xs) (r : RelV k.val u) :
    ∃ (t : Tok) (o : Obj) (C : Heap → Prop), Begins u o C ∧ C s.heap ∧ (∀ h' j, h'.get? j = some o → k.itr t j 0 h') ∧ ∀ b ∈ k.adr, b < s.heap.objs.size := by
  cases k with
  | lst a =>
    obtain ⟨us, rv, p, _⟩ := I.list h
    obtain rfl : u = Value.ref a := r
    exact ⟨0, _, _, begins_list a us.toArray, p.isList, fun h' j e => ⟨_, e, rfl, rfl⟩, fun b hb => by rw [List.mem_singleton.mp hb]; exact p.lt⟩
  | tup a =>
    obtain ⟨us, rv, p, _⟩ := I.tuple h
    obtain rfl : u = Value.ref a := r
    obtain ⟨o, ho, _⟩ := id p
    exact ⟨0, _, _, begins_tuple a us.toArray, p, fun h' j e => ⟨_, e, rfl, rfl⟩, fun b hb => by rw [List.mem_singleton.mp hb]; exact Heap.lt_size ho⟩
  | str z =>
    obtain ⟨t, rfl⟩ := r
    exact ⟨t, _, _, begins_text z t, trivial, fun h' j e => ⟨_, e, rfl, rfl⟩, fun b hb => by cases hb⟩
end

/-! ### zip -/
def ItZ (K : PySem.W.Frag) (k1 k2 : SK) : It where
  go := fun i H => ∃ xs ys, k1.at_ K H xs ∧ k2.at_ K H ys ∧ i < xs.length ∧ i < ys.length
  yld := fun i H v H' => ∃ T x y, v = .ref T ∧ H T = none ∧ H' = upd H T (.tup [x, y]) ∧ (∀ xs, k1.at_ K H xs → xs[i]? = some x) ∧ ∀ ys, k2.at_ K H ys → ys[i]? = some y
  stop := fun i H => ∃ xs ys, k1.at_ K H xs ∧ k2.at_ K H ys ∧ i ≤ xs.length ∧ i ≤ ys.length ∧ (i = xs.length ∨ i = ys.length)
theorem mem5 {c a1 a2 a3 a4 a5 : Addr} (h : c ∈ [a1, a2, a3, a4, a5]) : c = a1 ∨ c = a2 ∨ c = a3 ∨ c = a4 ∨ c = a5 := by simpa using h
theorem turn_zS {P : Program} {w : World} {K : PySem.W.Frag} {elts : List Expr} {kk : Nat} {tpos : Pos} {k1 k2 : SK} {t1 t2 : Tok} {z TI TO i1 i2 : Addr} (S : ZipSep2 z TI TO i1 i2 (i1 :: k1.adr) (i2 :: k2.adr)) (n1 : i1 ∉ k1.adr) (n2 : i2 ∉ k2.adr) :
    Turn P w K (.Tuple elts kk tpos) (ItZ K k1 k2) [z, TI, TO, i1, i2] z (fun i h => IsZip h z TI TO .none ∧ IsTupOf2 h TI (.ref i1) (.ref i2) ∧ (∃ x y, IsTupOf2 h TO x y) ∧ k1.itr t1 i1 i h ∧ k2.itr t2 i2 i h) where
  mem := List.mem_cons_self
  obj := fun i h st c hc => by
    obtain ⟨hz, hTI, ⟨x, y, hTO⟩, q1, q2⟩ := st
    rcases mem5 hc with e | e | e | e | e
    · subst e; exact ⟨_, hz, fun v q => nomatch q⟩
    · subst e; exact ⟨_, hTI, fun v q => nomatch q⟩
    · subst e; exact ⟨_, hTO, fun v q => nomatch q⟩
    · subst e; exact SK.there q1
    · subst e; exact SK.there q2
  keep := fun i h h' st k => by
    obtain ⟨hz, hTI, ⟨x, y, hTO⟩, q1, q2⟩ := st
    exact ⟨k z (by simp) _ hz, k TI (by simp) _ hTI, ⟨x, y, k TO (by simp) _ hTO⟩, SK.itr_at q1 (k i1 (by simp)), SK.itr_at q2 (k i2 (by simp))⟩
  item := by
    intro X hP hw hK hc i pins s σ H E I hf st hg
    subst hP hw hK
    obtain ⟨hz, hTI, ⟨x0, y0, hTO⟩, q1, q2⟩ := st
    obtain ⟨xs, ys, hx, hy, l1, l2⟩ := hg
    obtain ⟨P1, S1, D1, a1, b1, c1⟩ := SK.draws t1 I hx n1
    obtain ⟨P2, S2, D2, a2, b2, c2⟩ := SK.draws t2 I hy n2
    have hzl : z < s.heap.objs.size := Heap.lt_size hz
    refine wpAny_pyNext_zipD2_item S (D1 _ (I.ok.hd hc)) (D2 _ (I.ok.hd hc)) hz hTI hTO (a1 _ q1) (a2 _ q2) l1 l2 fun u1 u2 h' tk p1 p2 z' TO' s1 s2 hT hsz hk => ?_
    obtain ⟨x, ex, rx⟩ := c1 _ _ p1
    obtain ⟨y, ey, ry⟩ := c2 _ _ p2
    refine ⟨_, rfl, wpAny_letOwnedTupleGo_zip (s := { s with heap := h', toks := tk }) z' fun h'' z'' sb => ?_⟩
    have hT2 : h''.get? s.heap.objs.size = some { cls := .type "tuple", data := .seq #[u1, u2] } := (sb.2 _ (Nat.ne_of_gt hzl)).trans hT
    have kk : ∀ c o, c ∉ [z, TI, TO, i1, i2] → s.heap.get? c = some o → h''.get? c = some o := fun c o hb q =>
      (sb.2 c (fun e => hb (by simp [e]))).trans (hk c o (fun e => hb (by simp [e])) (fun e => hb (by simp [e])) (fun e => hb (by simp [e])) (fun e => hb (by simp [e])) q)
    have new : ObjOk X.prog X.w (upd H s.heap.objs.size (.tup [x, y])) h'' s.heap.objs.size (.tup [x, y]) := ⟨show 2 ≤ sizeLine by decide, [u1, u2], .cons rx (.cons ry .nil), ⟨_, hT2, rfl, _, rfl⟩⟩
    have J : Inv X pins σ (upd H s.heap.objs.size (.tup [x, y])) { s with heap := h'', toks := tk } := I.turnedNew kk hf (Nat.le_refl _) new
    refine ⟨.ref s.heap.objs.size, _, J, rfl, ⟨_, x, y, rfl, I.hok.fresh (Nat.le_refl _), rfl, fun l hl => by rw [SK.inj I hl hx]; exact ex, fun l hl => by rw [SK.inj I hl hy]; exact ey⟩, ⟨z'', ?_, ⟨u1, u2, ?_⟩, ?_, ?_⟩, fun c hcm => ?_⟩
    · exact (sb.2 _ S.TIz).trans (hk _ _ S.TIz S.TITO S.TIi1 S.TIi2 hTI)
    · exact (sb.2 _ S.TOz).trans TO'
    · exact SK.itr_at (b1 _ _ s1) fun o q => (sb.2 _ (Ne.symm S.zi1)).trans q
    · exact SK.itr_at (b2 _ _ s2) fun o q => (sb.2 _ (Ne.symm S.zi2)).trans q
    · have hlt : c < s.heap.objs.size := by
        rcases mem5 hcm with e | e | e | e | e
        · rw [e]; exact hzl
        · rw [e]; exact Heap.lt_size hTI
        · rw [e]; exact Heap.lt_size hTO
        · rw [e]; obtain ⟨_, e1, _⟩ := SK.there q1; exact Heap.lt_size e1
        · rw [e]; obtain ⟨_, e1, _⟩ := SK.there q2; exact Heap.lt_size e1
      rw [upd_ne (Nat.ne_of_lt hlt)]
      exact (hf c hcm).1
  done := by
    intro X hP hw hK hc i pins s σ H E I hf st hg
    subst hP hw hK
    obtain ⟨hz, hTI, ⟨x0, y0, hTO⟩, q1, q2⟩ := st
    obtain ⟨xs, ys, hx, hy, l1, l2, le⟩ := hg
    obtain ⟨P1, S1, D1, a1, b1, c1⟩ := SK.draws t1 I hx n1
    obtain ⟨P2, S2, D2, a2, b2, c2⟩ := SK.draws t2 I hy n2
    refine wpAny_pyNext_zipD2_end S (D1 _ (I.ok.hd hc)) (D2 _ (I.ok.hd hc)) hz hTI hTO (a1 _ q1) (a2 _ q2) l1 l2 le fun h' tk hk => ⟨rfl, I.turnedL (ch := [z, TI, TO, i1, i2]) (fun c o hb q => ?_) hf⟩
    exact hk c o (fun e => hb (by simp [e])) (fun e => hb (by simp [e])) (fun e => hb (by simp [e])) (fun e => hb (by simp [e])) q
  self := fun A i s Q E st h => wpAny_pyIter_zip st.1 h

def iZipS (K : PySem.W.Frag) (ta : TA) : TI := fun σ H R => ta σ H fun vs H1 => ∃ k1 k2 xs ys, vs = [SK.val k1, SK.val k2] ∧ SK.at_ K H1 k1 xs ∧ SK.at_ K H1 k2 ys ∧ R (ItZ K k1 k2) H1
theorem adr_ne {N : Nat} {l : List Addr} (h : ∀ b ∈ l, b < N) : ∀ m, N + m ∉ l := fun m q => by
  have := h _ q
  have t : (N + m : Nat) < N := this
  omega
theorem pi_zipS {X : Cx} {e e2 : Expr} {ta : TA} {p pos tpos : Pos} {elts : List Expr} {kk : Nat} (hg : Gl X "zip") (hm : X.mg "zip" = none) (ha : PA X [e, e2] ta)
    (hs : starEach [e, e2] X.env = (false, eval e X.env) :: starEach [e2] X.env := by rfl) (hpl : (backTo pos (starEach [e2] X.env)).any (·.1) = false := by rfl) :
    PI X (.Tuple elts kk tpos) (.Call (.Name "zip" p) [e, e2] [] pos) (iZipS X.K ta) := ⟨fun pins s σ H R I h => by
  refine Call_ (ld_blt I hg hm PyProof.Rows.boot_zip (PyProof.Rows.callWith_type1 (thn (ha.run pos pins s σ H _ I h) fun us s1 ⟨vs, H1, J, r1, k1, k2, xs, ys, ev, hx, hy, q⟩ => ?_) hs hpl))
  subst ev
  obtain ⟨u1, u2, rfl, ru1, ru2⟩ := vals2 r1
  obtain ⟨t1, o1, C1, B1, c1, f1, b1⟩ := SK.begins J hx ru1
  obtain ⟨t2, o2, C2, B2, c2, f2, b2⟩ := SK.begins J hy ru2
  refine zip_begins2 B1 B2 c1 c2 fun h' hz hTI hTO g1 g2 hsz hk => wpAny_pyIter_zip hz ?_
  have J2 : Inv X pins σ H1 { s1 with heap := h' } := J.kept (t' := s1.toks) hk
  have fr : ∀ c, c ∈ [s1.heap.objs.size + 4, s1.heap.objs.size + 2, s1.heap.objs.size + 3, s1.heap.objs.size, s1.heap.objs.size + 1] → FpOk X pins H1 c := fun c hcm => by
    have hle : s1.heap.objs.size ≤ c := by
      rcases mem5 hcm with z | z | z | z | z
      · rw [z]; exact Nat.le_add_right _ _
      · rw [z]; exact Nat.le_add_right _ _
      · rw [z]; exact Nat.le_add_right _ _
      · rw [z]; exact Nat.le_refl _
      · rw [z]; exact Nat.le_add_right _ _
    exact J.fpOk hle (J.hok.fresh hle)
  exact ⟨s1.heap.objs.size + 4, _, _, _, H1, rfl, J2, turn_zS (t1 := t1) (t2 := t2) (zip_sep2 b1 b2) (adr_ne b1 0) (adr_ne b2 1), ⟨hz, hTI, ⟨_, _, hTO⟩, f1 _ _ g1, f2 _ _ g2⟩, fr, q⟩⟩

/-! ### enumerate -/
def ItE (K : PySem.W.Frag) (k : SK) : It where
  go := fun i H => ∃ xs, k.at_ K H xs ∧ i < xs.length
  yld := fun i H v H' => ∃ T x, v = .ref T ∧ H T = none ∧ H' = upd H T (.tup [.int (i : Nat), x]) ∧ ∀ xs, k.at_ K H xs → xs[i]? = some x
  stop := fun i H => ∃ xs, k.at_ K H xs ∧ i = xs.length
theorem turn_eS {P : Program} {w : World} {K : PySem.W.Frag} {elts : List Expr} {kk : Nat} {tpos : Pos} {k : SK} {t : Tok} {e j : Addr} (hne : e ≠ j) (he : e ∉ k.adr) (hj : j ∉ k.adr) :
    Turn P w K (.Tuple elts kk tpos) (ItE K k) [e, j] e (fun i h => (∃ old, IsEnum h e j (i : Int) old) ∧ k.itr t j i h) where
  mem := List.mem_cons_self
  obj := fun i h st c hc => by
    obtain ⟨⟨old, hE⟩, q⟩ := st
    rcases List.mem_cons.mp hc with z | z
    · subst z; exact ⟨_, hE, fun v q => nomatch q⟩
    · rw [List.mem_singleton.mp z]; exact SK.there q
  keep := fun i h h' st k => by
    obtain ⟨⟨old, hE⟩, q⟩ := st
    exact ⟨⟨old, k e (by simp) _ hE⟩, SK.itr_at q (k j (by simp))⟩
  item := by
    intro X hP hw hK hc i pins s σ H E I hf st hg
    subst hP hw hK
    obtain ⟨⟨old, hE⟩, q⟩ := st
    obtain ⟨xs, hx, l1⟩ := hg
    obtain ⟨P1, S1, D1, a1, b1, c1⟩ := SK.draws t I hx hj
    have hel : e < s.heap.objs.size := Heap.lt_size hE
    have hef : e ∉ j :: k.adr := fun z => by
      rcases List.mem_cons.mp z with z | z
      · exact hne z
      · exact he z
    refine wpAny_pyNext_enum_itemC (D1 _ (I.ok.hd hc)) hE (a1 _ q) l1 hne hef fun u h' tk p1 ho s1 hT hsz hk => ?_
    obtain ⟨x, ex, rx⟩ := c1 _ _ p1
    refine ⟨_, rfl, wpAny_letOwnedTupleGo_enum (s := { s with heap := h', toks := tk + 1 }) ho fun h'' he' sb => ?_⟩
    have hT2 : h''.get? s.heap.objs.size = some { cls := .type "tuple", data := .seq #[.int (i : Int) tk, u] } := (sb.2 _ (Nat.ne_of_gt hel)).trans hT
    have kk : ∀ c o, c ∉ [e, j] → s.heap.get? c = some o → h''.get? c = some o := fun c o hb q => (sb.2 c (fun z => hb (by simp [z]))).trans (hk c o (fun z => hb (by simp [z])) (fun z => hb (by simp [z])) q)
    have new : ObjOk X.prog X.w (upd H s.heap.objs.size (.tup [.int (i : Nat), x])) h'' s.heap.objs.size (.tup [.int (i : Nat), x]) := ⟨show 2 ≤ sizeLine by decide, [.int (i : Int) tk, u], .cons ⟨_, rfl⟩ (.cons rx .nil), ⟨_, hT2, rfl, _, rfl⟩⟩
    have J : Inv X pins σ (upd H s.heap.objs.size (.tup [.int (i : Nat), x])) { s with heap := h'', toks := tk + 1 } := I.turnedNew kk hf (Nat.le_refl _) new
    refine ⟨.ref s.heap.objs.size, _, J, rfl, ⟨_, x, rfl, I.hok.fresh (Nat.le_refl _), rfl, fun l hl => by rw [SK.inj I hl hx]; exact ex⟩, ⟨⟨u, ?_⟩, ?_⟩, fun c hcm => ?_⟩
    · have z : ((i + 1 : Nat) : Int) = (i : Int) + 1 := by omega
      rw [z]; exact he'
    · exact SK.itr_at (b1 _ _ s1) fun o q => (sb.2 _ (Ne.symm hne)).trans q
    · have hlt : c < s.heap.objs.size := by
        rcases List.mem_cons.mp hcm with z | z
        · rw [z]; exact hel
        · rw [List.mem_singleton.mp z]; obtain ⟨_, e1, _⟩ := SK.there q; exact Heap.lt_size e1
      rw [upd_ne (Nat.ne_of_lt hlt)]
      exact (hf c hcm).1
  done := by
    intro X hP hw hK hc i pins s σ H E I hf st hg
    subst hP hw hK
    obtain ⟨⟨old, hE⟩, q⟩ := st
    obtain ⟨xs, hx, rfl⟩ := hg
    obtain ⟨P1, S1, D1, a1, b1, c1⟩ := SK.draws t I hx hj
    exact wpAny_pyNext_enum_endD (D1 _ (I.ok.hd hc)) hE (a1 _ q) fun h' hk => ⟨rfl, I.turnedL (t' := s.toks) (ch := [e, j]) (fun c o hb q => hk c o (fun z => hb (by simp [z])) q) hf⟩
  self := fun A i s Q E st h => let ⟨⟨_, hE⟩, _⟩ := st; wpAny_pyIter_enum hE h
set_option maxHeartbeats 1000000 in
theorem meets_enum1 {v : Value} {o : Obj} {C : Heap → Prop} (B : Begins v o C) :
    Meets (Builtin.«enumerate.__new__» ⟨[.type "enumerate", v], []⟩) (fun _ R s => C s.heap ∧
      R (.ok (.ret (.ref (s.heap.push o).objs.size))) { s with heap := (s.heap.push o).push { cls := .type "enumerate", data := .fields #[.none, .bool false, .ref s.heap.objs.size, rawInt 0, .none, .none] } }) :=
  .of_wp fun prog w A R s h => by
    obtain ⟨hp, g, d, tk, os⟩ := s; obtain ⟨h1, h⟩ := h
    have hsub := sub_enumerate
    have it1 : ∀ {A' : Around} {E : Value → Shared → Prop} {Q : Value → Shared → Prop}, Q (.ref hp.objs.size) ⟨hp.push o, g, d, tk, os⟩ → wpAny (model prog w) A' (pyIter v) Q E ⟨hp, g, d, tk, os⟩ :=
      fun q => B.iter prog w _ _ ⟨hp, g, d, tk, os⟩ _ h1 q
    wp_walk using it1
    refine wpAny_stack_any fun st => wpAny_pure ?_
    split
    · rename_i c _ _ _ _ _
      cases (c == Value.type "enumerate")
      · wp_walk using it1
        exact ⟨_, rfl, h⟩
      · wp_walk using it1
        exact ⟨_, rfl, h⟩
    · wp_walk using it1
      exact ⟨_, rfl, h⟩
theorem enum1_begins {prog : Program} {w : World} {A : Around} {E : Value → Shared → Prop} {s : Shared} {v : Value} {o : Obj} {C : Heap → Prop} {Q : Value → Shared → Prop} (B : Begins v o C) (h1 : C s.heap)
    (h : ∀ h', IsEnum h' (s.heap.objs.size + 1) s.heap.objs.size 0 .none → h'.get? s.heap.objs.size = some o → (∀ b o, s.heap.get? b = some o → h'.get? b = some o) → Q (.ref (s.heap.objs.size + 1)) { s with heap := h' }) :
    wpAny (model prog w) A (call (.type "enumerate") [v]) Q E s := by
  refine callType_new F.called_enumerate (by decide) (F.typeCall_enumerate_1 _) (F.newCall_enumerate_1 _) (fun obj => F.args_object_init_2 obj _) F.entry_enumerate_new (meets_enum1 B) ⟨h1, ?_⟩
  have hz : (s.heap.push o).objs.size = s.heap.objs.size + 1 := Heap.size_push ..
  show _ ∧ _
  rw [hz]
  have he := Heap.get?_push_size (s.heap.push o) (o := { cls := .type "enumerate", data := .fields #[.none, .bool false, .ref s.heap.objs.size, rawInt 0, .none, .none] }) rfl
  rw [hz] at he
  exact ⟨⟨_, he, rfl⟩, h _ he (Heap.get?_push_of_some _ (Heap.get?_push_size _ B.free)) fun b o x => Heap.get?_push_of_some _ (Heap.get?_push_of_some _ x)⟩
def iEnumS (K : PySem.W.Frag) (ta : TA) : TI := fun σ H R => ta σ H fun vs H1 => ∃ k xs, vs = [SK.val k] ∧ SK.at_ K H1 k xs ∧ R (ItE K k) H1
theorem pi_enumS {X : Cx} {e : Expr} {ta : TA} {p pos tpos : Pos} {elts : List Expr} {kk : Nat} (hg : Gl X "enumerate") (hm : X.mg "enumerate" = none) (ha : PA X [e] ta) (hs : starEach [e] X.env = (false, eval e X.env) :: starEach [] X.env := by rfl) :
    PI X (.Tuple elts kk tpos) (.Call (.Name "enumerate" p) [e] [] pos) (iEnumS X.K ta) := ⟨fun pins s σ H R I h => by
  refine Call_ (ld_blt I hg hm boot_enumerate (PyProof.Rows.callWith_type1 (thn (ha.run pos pins s σ H _ I h) fun us s1 ⟨vs, H1, J, r1, k, xs, ev, hx, q⟩ => ?_) hs rfl))
  subst ev
  obtain ⟨u1, rfl, ru1⟩ := vals1 r1
  obtain ⟨t1, o1, C1, B1, c1, f1, b1⟩ := SK.begins J hx ru1
  refine enum1_begins B1 c1 fun h' hE g1 hk => wpAny_pyIter_enum hE ?_
  have J2 : Inv X pins σ H1 { s1 with heap := h' } := J.kept (t' := s1.toks) hk
  have fr : ∀ c, c ∈ [s1.heap.objs.size + 1, s1.heap.objs.size] → FpOk X pins H1 c := fun c hcm => by
    have hle : s1.heap.objs.size ≤ c := by
      rcases List.mem_cons.mp hcm with z | z
      · rw [z]; exact Nat.le_add_right _ _
      · rw [List.mem_singleton.mp z]; exact Nat.le_refl _
    exact J.fpOk hle (J.hok.fresh hle)
  exact ⟨s1.heap.objs.size + 1, _, _, _, H1, rfl, J2, turn_eS (t := t1) (Nat.succ_ne_self _) (adr_ne b1 1) (adr_ne b1 0), ⟨⟨_, hE⟩, f1 _ _ g1⟩, fr, q⟩⟩
end DV


set_option maxRecDepth 100000
set_option maxHeartbeats 4000000
/-! DV11: iterators' and targets' readings. -/
namespace DV
open PySem PySem.Spec PyProof.Rows L2

section
variable (K : PySem.W.Frag) (ca : Nat → Addr)
/-- the walk J tells the data ds, one after another, whatever is made meanwhile -/
def Wk (J : It) (F : Hp) (ds : List D) : Prop := ∀ F' H', Same F F' → Same F' H' →
  (∀ (i : Nat) (d : D), ds[i]? = some d → J.go i H' ∧ ∀ v H'', J.yld i H' v H'' → ∃ F'', Ext F' H' F'' H'' ∧ Rp K ca F'' v d) ∧ J.stop ds.length H'
variable (T : Tab) (calls : Calls) (W : WX)
def tI (c : IC) : TI := fun σ H R => ∃ (g : Gh) (F : Hp) (env : Ce), StOk K ca g F H σ env ∧
  Post K ca g σ W (fun ds env' => ∀ J F' H', StOk K ca g F' H' σ env' → Same F F' → Wk K ca J F' ds → R J H') (evI T calls c env)
def tgSl : Tg → List Nat
  | .name i => [i]
  | .tup is => is
/-- a target takes a frozen datum -/
def gT (tg : Tg) : TG := fun v σ H Q => ∃ (g : Gh) (F : Hp) (env : Ce) (d : D) (env1 : Ce), StOk K ca g F H σ env ∧ Rp K ca F v d ∧ setTg tg d env = some env1 ∧
  ∀ σ', StOk K ca g F H σ' env1 → (∀ i, i ∉ tgSl tg → σ'[i]? = σ[i]?) → Q σ' H
end
section
variable {K : PySem.W.Frag} {ca : Nat → Addr} {T : Tab} {calls : Calls} {W : WX} {g : Gh} {F F' H H' : Hp} {σ : L2.St} {env env' : Ce}
theorem Wk.mono {J : It} {ds : List D} (h : Wk K ca J F ds) (e : Same F F') : Wk K ca J F' ds := fun F2 H2 e1 e2 => h F2 H2 (e.trans e1) e2
theorem PI.or {X : Cx} {tg e : Expr} {t1 t2 : TI} (h1 : PI X tg e t1) (h2 : PI X tg e t2) : PI X tg e (fun σ H R => t1 σ H R ∨ t2 σ H R) :=
  ⟨fun pins s σ H R I h => h.elim (h1.run pins s σ H R I) (h2.run pins s σ H R I)⟩
theorem Rps.len_lt {vs : List V} {ds : List D} {i : Nat} {d : D} (r : Rps K ca F vs ds) (e : ds[i]? = some d) : ∃ v, vs[i]? = some v ∧ Rp K ca F v d := r.get e
theorem rps_chrs (z : Str) : Rps K ca F (chrs z) (z.cps.toList.map fun c => .str ⟨#[c]⟩) := by
  unfold chrs
  induction z.cps.toList with
  | nil => exact .nil
  | cons c cs ih => exact .cons (.str _) ih
theorem seqL_to {a : Addr} {xs : List V} (e : Same F H) (h : SqL K F a xs) : SqL K H a xs := e.seq h
/-- a frozen datum that can be walked -/
theorem sk_of {v : V} {d : D} {ds : List D} (r : Rp K ca F v d) (h : itemsD d = some ds) : ∃ (k : SK) (xs : List V), v = k.val ∧ Rps K ca F xs ds ∧ ∀ H, Same F H → k.at_ K H xs := by
  cases r with
  | wt q r => cases h; exact ⟨.tup _, _, rfl, r, fun H e => seqT e q⟩
  | lst q r => cases h; exact ⟨.lst _, _, rfl, r, fun H e => SqL.of (e _ _ q)⟩
  | tup q r => cases h; exact ⟨.tup _, _, rfl, r, fun H e => SqT.of (e _ _ q)⟩
  | str z => cases h; exact ⟨.str z, chrs z, rfl, rps_chrs z, fun H _ => rfl⟩
  | _ => cases h
/-- the walk over one -/
def itK (K : PySem.W.Frag) : SK → It
  | .lst a => Itl K a
  | .tup a => Itt K a
  | .str z => Its z
theorem wk_k {k : SK} {xs : List V} {ds : List D} (r : Rps K ca F xs ds) (h : ∀ H, Same F H → k.at_ K H xs) : Wk K ca (itK K k) F ds := fun F' H' e1 e2 => by
  have q := h H' (e1.trans e2)
  have r' := r.mono e1
  have hl := r.length
  cases k with
  | lst a =>
    refine ⟨fun i d e => ?_, ⟨xs, q, by rw [hl]; exact Nat.le_refl _⟩⟩
    obtain ⟨v, ev, rv⟩ := r'.get e
    refine ⟨⟨xs, v, q, ev⟩, fun u H2 y => ?_⟩
    obtain ⟨rfl, y⟩ := y
    have z := y xs q
    rw [ev] at z
    cases z
    exact ⟨F', Ext.refl e2, rv⟩
  | tup a =>
    refine ⟨fun i d e => ?_, ⟨xs, q, by rw [hl]; exact Nat.le_refl _⟩⟩
    obtain ⟨v, ev, rv⟩ := r'.get e
    refine ⟨⟨xs, v, q, ev⟩, fun u H2 y => ?_⟩
    obtain ⟨rfl, y⟩ := y
    have z := y xs q
    rw [ev] at z
    cases z
    exact ⟨F', Ext.refl e2, rv⟩
  | str z =>
    have q' : xs = chrs z := q
    subst q'
    have hs : (chrs z).length = z.cps.size := by rw [chrs, List.length_map, Array.length_toList]
    refine ⟨fun i d e => ?_, show z.cps.size ≤ ds.length by rw [← hl, hs]; exact Nat.le_refl _⟩
    obtain ⟨v, ev, rv⟩ := r'.get e
    have hi : i < z.cps.size := by rw [← hs]; exact (List.getElem?_eq_some_iff.mp ev).1
    refine ⟨hi, fun u H2 y => ?_⟩
    obtain ⟨rfl, c, ec, rfl⟩ := y
    rw [chrs, List.getElem?_map, Array.getElem?_toList, ec] at ev
    cases ev
    exact ⟨F', Ext.refl e2, rv⟩
theorem Rps.pairT {v w' : V} {d e : D} (h : Rp K ca F v d) (h' : Rp K ca F w' e) : Rps K ca F [v, w'] [d, e] := .cons h (.cons h' .nil)
theorem wk_z {k1 k2 : SK} {xs ys : List V} {ds es : List D} (r1 : Rps K ca F xs ds) (r2 : Rps K ca F ys es) (h1 : ∀ H, Same F H → k1.at_ K H xs) (h2 : ∀ H, Same F H → k2.at_ K H ys) :
    Wk K ca (ItZ K k1 k2) F ((ds.zip es).map fun p => .tup [p.1, p.2]) := fun F' H' e1 e2 => by
  have q1 := h1 H' (e1.trans e2)
  have q2 := h2 H' (e1.trans e2)
  have l1 := r1.length
  have l2 := r2.length
  refine ⟨fun i d e => ?_, xs, ys, q1, q2, ?_, ?_, ?_⟩
  · rw [List.getElem?_map] at e
    cases z : (ds.zip es)[i]? with
    | none => rw [z] at e; cases e
    | some p =>
      rw [z] at e
      cases e
      obtain ⟨p1, p2⟩ := p
      have y := List.getElem?_zip_eq_some.mp z
      obtain ⟨v, ev, rv⟩ := (r1.mono e1).get y.1
      obtain ⟨u, eu, ru⟩ := (r2.mono e1).get y.2
      refine ⟨⟨xs, ys, q1, q2, (List.getElem?_eq_some_iff.mp ev).1, (List.getElem?_eq_some_iff.mp eu).1⟩, fun w' H2 y2 => ?_⟩
      obtain ⟨T, x, y3, rfl, hT, rfl, f1, f2⟩ := y2
      have z1 := f1 xs q1
      have z2 := f2 ys q2
      rw [ev] at z1
      cases z1
      rw [eu] at z2
      cases z2
      have X := Ext.new (o := .tup [v, u]) e2 hT
      exact ⟨_, X, .tup upd_same (.pairT (rv.mono X.ff) (ru.mono X.ff))⟩
  · rw [List.length_map, List.length_zip]; omega
  · rw [List.length_map, List.length_zip]; omega
  · rw [List.length_map, List.length_zip]; omega
theorem wk_e {k : SK} {xs : List V} {ds : List D} (r : Rps K ca F xs ds) (h : ∀ H, Same F H → k.at_ K H xs) : Wk K ca (ItE K k) F (ds.mapIdx fun i x => .tup [.int (i : Nat), x]) := fun F' H' e1 e2 => by
  have q := h H' (e1.trans e2)
  have l := r.length
  refine ⟨fun i d e => ?_, xs, q, by rw [List.length_mapIdx]; exact l.symm⟩
  rw [List.getElem?_mapIdx] at e
  cases z : ds[i]? with
  | none => rw [z] at e; cases e
  | some p =>
    rw [z] at e
    cases e
    obtain ⟨v, ev, rv⟩ := (r.mono e1).get z
    refine ⟨⟨xs, q, (List.getElem?_eq_some_iff.mp ev).1⟩, fun w' H2 y2 => ?_⟩
    obtain ⟨T, x, rfl, hT, rfl, f1⟩ := y2
    have z1 := f1 xs q
    rw [ev] at z1
    cases z1
    have X := Ext.new (o := .tup [.int (i : Nat), v]) e2 hT
    exact ⟨_, X, .tup upd_same (.pairT (.int _) (rv.mono X.ff))⟩
theorem wk_r {lo hi : Int} {n : Nat} (hn : n = (hi - lo).toNat) : Wk K ca (Itr lo n) F (rngD lo hi) := fun F' H' e1 e2 => by
  unfold rngD
  refine ⟨fun i d e => ?_, show n ≤ _ by rw [List.length_map, List.length_range]; omega⟩
  rw [List.getElem?_map] at e
  cases z : (List.range (hi - lo).toNat)[i]? with
  | none => rw [z] at e; cases e
  | some p =>
    rw [z] at e
    cases e
    obtain ⟨z1, z2⟩ := List.getElem?_eq_some_iff.mp z
    rw [List.length_range] at z1
    rw [List.getElem_range] at z2
    subst z2
    refine ⟨show i < n by omega, fun v H2 y => ?_⟩
    obtain ⟨rfl, rfl⟩ := y
    exact ⟨F', Ext.refl e2, .int _⟩
end

section
variable {X : Cx} {W : WX} {ca : Nat → Addr} {T : Tab} {calls : Calls} {e e2 tg : Expr} {pos : Pos}
abbrev DI (X : Cx) (W : WX) (ca : Nat → Addr) (T : Tab) (calls : Calls) (tg e : Expr) (c : IC) : Prop := PI X tg e (tI X.K ca T calls W c)
abbrev DG (X : Cx) (ca : Nat → Addr) (e : Expr) (t : Tg) : Prop := PG X e (gT X.K ca t)
theorem di_seq {a : EC} (ha : DE X W ca T calls e a) : DI X W ca T calls tg e (.seq a) := PI.imp (PI.or (pi_list ha) (PI.or (pi_tup ha) (pi_str ha))) fun σ H R h => by
  obtain ⟨g, F, env, s, k⟩ := h
  have k' : Post X.K ca g σ W _ (bindX (evE T calls a env) fun d env' => okO (itemsD d) env') := k
  cases q : evE T calls a env with
  | none => rw [q] at k'; exact k'.elim
  | some r =>
    rw [q] at k'
    cases r with
    | ex c fs e1 => exact .inl ⟨g, F, env, s, by rw [q]; exact k'⟩
    | ok d e1 =>
      obtain ⟨ds, hi, k2⟩ := post_okO k'
      have gen : ∀ {Q : VK}, (∀ v F1 H1, StOk X.K ca g F1 H1 σ e1 → Same F F1 → Rp X.K ca F1 v d → Q v H1) → tE X.K ca T calls W a σ H Q := fun h => ⟨g, F, env, s, by rw [q]; exact h⟩
      cases d with
      | lst xs =>
        refine .inl (gen fun v F1 H1 s1 f1 r1 => ?_)
        cases r1 with
        | lst z r => cases hi; exact ⟨_, rfl, ⟨_, SqL.of (s1.fh _ _ z)⟩, k2 _ F1 H1 s1 f1 (wk_k (k := .lst _) r fun H e => SqL.of (e _ _ z))⟩
      | tup xs =>
        refine .inr (.inl (gen fun v F1 H1 s1 f1 r1 => ?_))
        cases r1 with
        | tup z r => cases hi; exact ⟨_, rfl, ⟨_, SqT.of (s1.fh _ _ z)⟩, k2 _ F1 H1 s1 f1 (wk_k (k := .tup _) r fun H e => SqT.of (e _ _ z))⟩
      | wt xs =>
        refine .inr (.inl (gen fun v F1 H1 s1 f1 r1 => ?_))
        cases r1 with
        | wt z r => cases hi; exact ⟨_, rfl, ⟨_, seqT s1.fh z⟩, k2 _ F1 H1 s1 f1 (wk_k (k := .tup _) r fun H e => seqT e z)⟩
      | str xs =>
        refine .inr (.inr (gen fun v F1 H1 s1 f1 r1 => ?_))
        cases r1 with
        | str z => cases hi; exact ⟨_, rfl, k2 _ F1 H1 s1 f1 (wk_k (k := .str _) (rps_chrs _) fun H e => rfl)⟩
      | _ => cases hi
theorem di_rng1 {a : EC} {p : Pos} (hg : Gl X "range") (hm : X.mg "range" = none) (ha : DE X W ca T calls e a) (hs : starEach [e] X.env = [(false, eval e X.env)] := by rfl) : DI X W ca T calls tg (.Call (.Name "range" p) [e] [] pos) (.rng1 a) :=
  PI.imp (pi_range1 hg hm (pa_cons ha pa_nil hs) hs) fun σ H R h => by
    obtain ⟨g, F, env, s, k⟩ := h
    refine ⟨g, F, env, s, Post.mono (fun d env1 h1 v F1 H1 s1 f1 r1 => ?_) (post_bind k)⟩
    cases d with
    | int j =>
      by_cases z : j.natAbs < 4611686018427387904
      · have h2 : Post X.K ca g σ W _ (if j.natAbs < 4611686018427387904 then some (XR.ok (rngD 0 j) env1) else none) := h1
        rw [if_pos z] at h2
        cases r1
        exact ⟨j, rfl, by omega, by omega, h2 _ F1 H1 s1 f1 (wk_r (by rw [Int.sub_zero]))⟩
      · have h2 : Post X.K ca g σ W _ (if j.natAbs < 4611686018427387904 then some (XR.ok (rngD 0 j) env1) else none) := h1
        rw [if_neg z] at h2
        exact h2.elim
    | _ => exact h1.elim
theorem di_rng2 {a b : EC} {p : Pos} (hg : Gl X "range") (hm : X.mg "range" = none) (ha : DE X W ca T calls e a) (hb : DE X W ca T calls e2 b) (hs : starEach [e, e2] X.env = [(false, eval e X.env), (false, eval e2 X.env)] := by rfl) (hs2 : starEach [e2] X.env = [(false, eval e2 X.env)] := by rfl) :
    DI X W ca T calls tg (.Call (.Name "range" p) [e, e2] [] pos) (.rng2 a b) :=
  PI.imp (pi_range2 hg hm (pa_cons ha (pa_cons hb pa_nil hs2) (by rw [hs2]; exact hs)) hs hs2) fun σ H R h => by
    obtain ⟨g, F, env, s, k⟩ := h
    refine ⟨g, F, env, s, Post.mono (fun d env1 h1 v F1 H1 s1 f1 r1 => ?_) (post_bind k)⟩
    refine ⟨g, F1, env1, s1, Post.mono (fun d2 env2 h2 v2 F2 H2 s2 f2 r2 => ?_) (post_bind h1)⟩
    have no : ∀ {P : Prop}, Post X.K ca g σ W (fun ds env' => ∀ J F' H', StOk X.K ca g F' H' σ env' → Same F F' → Wk X.K ca J F' ds → R J H') none → P := fun h => h.elim
    cases d with
    | int i =>
      cases d2 with
      | int j =>
        by_cases z : i.natAbs < 4611686018427387904 ∧ j.natAbs < 4611686018427387904
        · have h3 : Post X.K ca g σ W _ (if i.natAbs < 4611686018427387904 ∧ j.natAbs < 4611686018427387904 then some (XR.ok (rngD i j) env2) else none) := h2
          rw [if_pos z] at h3
          cases r1
          cases r2
          exact ⟨i, j, rfl, ⟨by omega, by omega, by omega, by omega⟩, h3 _ F2 H2 s2 (f1.trans f2) (wk_r rfl)⟩
        · have h3 : Post X.K ca g σ W _ (if i.natAbs < 4611686018427387904 ∧ j.natAbs < 4611686018427387904 then some (XR.ok (rngD i j) env2) else none) := h2
          rw [if_neg z] at h3
          exact h3.elim
      | _ => exact h2.elim
    | _ => exact h2.elim
theorem di_enum {a : EC} {p tpos : Pos} {elts : List Expr} {kk : Nat} (hg : Gl X "enumerate") (hm : X.mg "enumerate" = none) (ha : DE X W ca T calls e a) (hs : starEach [e] X.env = (false, eval e X.env) :: starEach [] X.env := by rfl) :
    DI X W ca T calls (.Tuple elts kk tpos) (.Call (.Name "enumerate" p) [e] [] pos) (.enum a) := PI.imp (pi_enumS hg hm (pa_cons ha pa_nil hs) hs) fun σ H R h => by
  obtain ⟨g, F, env, s, k⟩ := h
  refine ⟨g, F, env, s, Post.mono (fun d env1 h1 v F1 H1 s1 f1 r1 => ?_) (post_bind k)⟩
  cases q : itemsD d with
  | none => rw [q] at h1; exact h1.elim
  | some ds =>
    rw [q] at h1
    obtain ⟨k, xs, ev, rp, at_⟩ := sk_of r1 q
    subst ev
    exact ⟨k, xs, rfl, at_ _ s1.fh, h1 _ F1 H1 s1 f1 (wk_e rp at_)⟩
theorem di_zip {a b : EC} {p tpos : Pos} {elts : List Expr} {kk : Nat} (hg : Gl X "zip") (hm : X.mg "zip" = none) (ha : DE X W ca T calls e a) (hb : DE X W ca T calls e2 b) (hs2 : starEach [e2] X.env = (false, eval e2 X.env) :: starEach [] X.env := by rfl)
    (hs : starEach [e, e2] X.env = (false, eval e X.env) :: starEach [e2] X.env := by rfl) (hpl : (backTo pos (starEach [e2] X.env)).any (·.1) = false := by rfl) :
    DI X W ca T calls (.Tuple elts kk tpos) (.Call (.Name "zip" p) [e, e2] [] pos) (.zip a b) := PI.imp (pi_zipS hg hm (pa_cons ha (pa_cons hb pa_nil hs2) hs) hs hpl) fun σ H R h => by
  obtain ⟨g, F, env, s, k⟩ := h
  refine ⟨g, F, env, s, Post.mono (fun d env1 h1 v F1 H1 s1 f1 r1 => ?_) (post_bind k)⟩
  refine ⟨g, F1, env1, s1, Post.mono (fun d2 env2 h2 v2 F2 H2 s2 f2 r2 => ?_) (post_bind h1)⟩
  cases q : itemsD d with
  | none => rw [q] at h2; exact h2.elim
  | some ds =>
    cases q2 : itemsD d2 with
    | none => rw [q, q2] at h2; exact h2.elim
    | some es =>
      rw [q, q2] at h2
      obtain ⟨k, xs, ev, rp, at_⟩ := sk_of (r1.mono f2) q
      obtain ⟨k', ys, ev', rp', at'⟩ := sk_of r2 q2
      subst ev ev'
      exact ⟨k, k', xs, ys, rfl, at_ _ s2.fh, at' _ s2.fh, h2 _ F2 H2 s2 (f1.trans f2) (wk_z rp rp' at_ at')⟩

/-! ### targets -/
theorem dg_name (i : Nat) {x : Str} (hN : X.N.Nodup) (hi : X.N[i]? = some x) (hx : Loc X.env.scope x) (hf : X.fn x = true ∨ X.env.scope.names.lookup x = some .local) : DG X ca (.Name x pos) (.name i) :=
  ⟨fun pins s σ H v u Q I r h => by
    obtain ⟨g, F, env, d, env1, st, rp, e, q⟩ := h
    have e' : (if i < env.length then some (env.set i (.fz d)) else none) = some env1 := e
    by_cases hl : i < env.length
    · rw [if_pos hl] at e'
      cases e'
      exact (pg_name hN hi hx hf).run pins s σ H v u Q I r (q _ (st.setFz rp hl) fun j hj => by
        rw [List.getElem?_set_ne (fun z => hj (by rw [z]; exact List.mem_singleton.mpr rfl))])
    · rw [if_neg hl] at e'; cases e'⟩
/-- targets, one after another: what they do to the slots -/
def gNames : List Nat → TGs
  | [] => gNil
  | i :: is => gCons (gName i) (gNames is)
theorem gNames_ok {K : PySem.W.Frag} {g : Gh} {F H : Hp} : ∀ {is : List Nat} {vs : List V} {ds : List D} {σ : L2.St} {env : Ce} {Q : L2.St → Hp → Prop}, StOk K ca g F H σ env → Rps K ca F vs ds → is.length = ds.length → (is.all fun i => decide (i < env.length)) = true →
    (∀ σ', StOk K ca g F H σ' ((is.zip ds).foldl (fun e p => e.set p.1 (.fz p.2)) env) → (∀ i, i ∉ is → σ'[i]? = σ[i]?) → Q σ' H) → gNames is vs σ H Q
  | [], vs, ds, σ, env, Q, s, r, hl, ha, q => by
    cases ds with
    | cons d ds => cases hl
    | nil => cases r; exact ⟨rfl, q σ s fun _ _ => rfl⟩
  | i :: is, vs, ds, σ, env, Q, s, r, hl, ha, q => by
    cases r with
    | nil => cases hl
    | cons h t =>
      rw [List.all_cons, Bool.and_eq_true] at ha
      have hi := of_decide_eq_true ha.1
      refine ⟨_, _, rfl, gNames_ok (s.setFz h hi) t (by simpa using hl) (by rw [List.length_set]; exact ha.2) fun σ' s' o => q σ' s' fun j hj => ?_⟩
      rw [List.mem_cons, not_or] at hj
      rw [o j hj.2, List.getElem?_set_ne (Ne.symm hj.1)]
theorem dg_tup {es : List Expr} {is : List Nat} {kk : Nat} (hc : X.calm = true) (h : PGs X es (gNames is)) (hl : es.length = is.length := by rfl) (hn : (assignEach es X.env).length = es.length := by rfl) (hst : (assignEach es X.env).findIdx? (·.1) = none := by rfl) : DG X ca (.Tuple es kk pos) (.tup is) :=
  ⟨fun pins s σ H v u Q I r h2 => by
    obtain ⟨g, F, env, d, env1, st, rp, e, q⟩ := h2
    cases d with
    | tup ds =>
      have e' : (if is.length = ds.length ∧ (is.all fun i => decide (i < env.length)) = true then some ((is.zip ds).foldl (fun e p => e.set p.1 (.fz p.2)) env) else none) = some env1 := e
      by_cases z : is.length = ds.length ∧ (is.all fun i => decide (i < env.length)) = true
      · rw [if_pos z] at e'
        cases e'
        cases rp with
        | tup q2 r2 =>
          exact (pg_tup hc h hn hst).run pins s σ H _ u Q I r ⟨_, _, rfl, SqT.of (st.fh _ _ q2), by rw [r2.length, hl, z.1], gNames_ok st r2 z.1 z.2 q⟩
      · rw [if_neg z] at e'; cases e'
    | _ => cases e⟩
theorem pgs_nm {es : List Expr} {is : List Nat} (i : Nat) {x : Str} (hN : X.N.Nodup) (h : PGs X es (gNames is)) (hi : X.N[i]? = some x := by rfl) (hx : Loc X.env.scope x := by first | exact Or.inl rfl | exact Or.inr rfl) (hf : X.fn x = true ∨ X.env.scope.names.lookup x = some .local := by first | exact Or.inr rfl | exact Or.inl rfl)
    (hs : (assignEach (.Name x pos :: es) X.env).map (·.2) = assign (.Name x pos) X.env :: (assignEach es X.env).map (·.2) := by rfl) : PGs X (.Name x pos :: es) (gNames (i :: is)) := pgs_cons (pg_name hN hi hx hf) h hs
theorem pgs_no : PGs X [] (gNames []) := pgs_nil
end
end DV


set_option maxRecDepth 100000
set_option maxHeartbeats 4000000
/-! DV12: statements. -/
namespace DV
open PySem PySem.Spec PyProof.Rows L2

section
variable (K : PySem.W.Frag) (ca : Nat → Addr) (T : Tab) (calls : Calls) (W : WX) (ro : Bool)
/-- what a def hands back -/
def RtR (g : Gh) (F H : Hp) (σ : L2.St) (env : Ce) (v : V) (d : D) : Prop := match ro with
  | true => OwnR K ca g F H σ env v d
  | false => Rp K ca F v d
def EndOk (g : Gh) (F : Hp) (D : Ends) : Option Fl → Prop
  | some (.nx env') => ∀ σ' F' H', StOk K ca g F' H' σ' env' → Same F F' → D.nx σ' H'
  | some (.bk env') => ∀ σ' F' H', StOk K ca g F' H' σ' env' → Same F F' → D.bk σ' H'
  | some (.ct env') => ∀ σ' F' H', StOk K ca g F' H' σ' env' → Same F F' → D.ct σ' H'
  | some (.rt d env') => ∀ v σ' F' H', StOk K ca g F' H' σ' env' → Same F F' → RtR K ca ro g F' H' σ' env' v d → D.rt v H'
  | some (.ex c fs env') => ∀ σ' F' H' dd, StOk K ca g F' H' σ' env' → XdOk K ca F' H' dd fs → W (.ref (ca c)) dd σ' H'
  | none => False
def tSt (c : SC) : TS := fun D σ H => ∃ (g : Gh) (F : Hp) (env : Ce), StOk K ca g F H σ env ∧ EndOk K ca W ro g F D (evS T calls c env)
def tSts (c : SCs) : TS := fun D σ H => ∃ (g : Gh) (F : Hp) (env : Ce), StOk K ca g F H σ env ∧ EndOk K ca W ro g F D (evSs T calls c env)
end

section
variable {K : PySem.W.Frag} {ca : Nat → Addr} {T : Tab} {calls : Calls} {W : WX} {ro : Bool} {g : Gh} {F F' H H' : Hp} {σ : L2.St} {env env' : Ce} {Z : Ends}
theorem EndOk.mono {r : Option Fl} (h : EndOk K ca W ro g F Z r) (e : Same F F') : EndOk K ca W ro g F' Z r := by
  cases r with
  | none => exact h
  | some r =>
    cases r with
    | nx env => exact fun σ' F2 H2 s f => h σ' F2 H2 s (e.trans f)
    | bk env => exact fun σ' F2 H2 s f => h σ' F2 H2 s (e.trans f)
    | ct env => exact fun σ' F2 H2 s f => h σ' F2 H2 s (e.trans f)
    | rt d env => exact fun v σ' F2 H2 s f => h v σ' F2 H2 s (e.trans f)
    | ex c fs env => exact h
theorem endOk_bind {α : Type} {m : Option (XR α)} {k : α → Ce → Option Fl} (h : EndOk K ca W ro g F Z (bindF m k)) : Post K ca g σ W (fun a e => EndOk K ca W ro g F Z (k a e)) m := by
  cases m with
  | none => exact h
  | some r =>
    cases r with
    | ok a e => exact h
    | ex c fs e => exact fun F' H' dd s x => h σ F' H' dd s x
theorem endOk_nxO {m : Option Ce} (h : EndOk K ca W ro g F Z (nxO m)) : ∃ e, m = some e ∧ ∀ σ' F' H', StOk K ca g F' H' σ' e → Same F F' → Z.nx σ' H' := by
  cases m with
  | none => exact h.elim
  | some e => exact ⟨e, rfl, h⟩
theorem setD_some {i : Nat} {c : Cell} (h : setD i c env = some env') : i < env.length ∧ env' = env.set i c := by
  have h' : (if i < env.length then some (env.set i c) else none) = some env' := h
  by_cases z : i < env.length
  · rw [if_pos z] at h'; cases h'; exact ⟨z, rfl⟩
  · rw [if_neg z] at h'; cases h'
theorem tSts_cons {s : SC} {r : SCs} (h : tSts K ca T calls W ro (.cons s r) Z σ H) : tSeq (tSt K ca T calls W ro s) (tSts K ca T calls W ro r) Z σ H := by
  obtain ⟨g, F, env, st, k⟩ := h
  refine ⟨g, F, env, st, ?_⟩
  have k' : EndOk K ca W ro g F Z (match evS T calls s env with
    | some (.nx env') => evSs T calls r env'
    | r => r) := k
  cases q : evS T calls s env with
  | none => rw [q] at k'; exact k'
  | some f =>
    rw [q] at k'
    cases f with
    | nx e => exact fun σ' F' H' s' f' => ⟨g, F', e, s', k'.mono f'⟩
    | bk e => exact k'
    | ct e => exact k'
    | rt d e => exact k'
    | ex c fs e => exact k'
/-- a write of an object of one's own -/
theorem putD_some {i : Nat} {k v : D} (h : putD i k v env = some env') : ∃ c x r, env[i]? = some c ∧ c.mine = true ∧ c.val = some x ∧ mop .put x [k, v] = some r ∧ env' = env.set i (c.put r.2) := by
  unfold putD at h
  split at h
  · split at h
    · split at h
      · split at h
        · cases h; exact ⟨_, _, _, by assumption, by assumption, by assumption, by assumption, rfl⟩
        · cases h
      · cases h
    · cases h
  · cases h
theorem storeK_ok {κ : Type} [DecidableEq κ] {k : κ} {v : V} {d : D} (h : Rp K ca F v d) : ∀ {kvs : List (κ × V)} {ds : List (κ × D)}, kvs.map Prod.fst = ds.map Prod.fst → Rps K ca F (kvs.map Prod.snd) (ds.map Prod.snd) →
    (kvs.any fun kv => decide (kv.1 = k)) = (ds.any fun kv => decide (kv.1 = k)) ∧ (kvs.map fun kv => if kv.1 = k then (kv.1, v) else kv).map Prod.fst = (ds.map fun kv => if kv.1 = k then (kv.1, d) else kv).map Prod.fst ∧
      Rps K ca F ((kvs.map fun kv => if kv.1 = k then (kv.1, v) else kv).map Prod.snd) ((ds.map fun kv => if kv.1 = k then (kv.1, d) else kv).map Prod.snd)
  | [], [], _, _ => ⟨rfl, rfl, .nil⟩
  | [], _ :: _, h, _ => by cases h
  | _ :: _, [], h, _ => by cases h
  | (k1, v1) :: kvs, (k2, d1) :: ds, e, r => by
    have e' : k1 :: kvs.map Prod.fst = k2 :: ds.map Prod.fst := e
    injection e' with e1 e2
    subst e1
    have r' : Rps K ca F (v1 :: kvs.map Prod.snd) (d1 :: ds.map Prod.snd) := r
    cases r' with
    | cons r1 r2 =>
      obtain ⟨a, b, c⟩ := storeK_ok h e2 r2
      by_cases z : k1 = k
      · simp only [List.any_cons, List.map_cons, z, if_true]
        refine ⟨by rw [a], ?_, .cons h c⟩
        exact congrArg (List.cons k) b
      · simp only [List.any_cons, List.map_cons, z, if_false]
        refine ⟨by rw [a], ?_, .cons r1 c⟩
        exact congrArg (List.cons k1) b
theorem putK_ok {κ : Type} [DecidableEq κ] {k : κ} {v : V} {d : D} (h : Rp K ca F v d) {kvs : List (κ × V)} {ds : List (κ × D)} (e : kvs.map Prod.fst = ds.map Prod.fst) (r : Rps K ca F (kvs.map Prod.snd) (ds.map Prod.snd)) :
    (putK kvs k v).map Prod.fst = (storeK ds k d).map Prod.fst ∧ Rps K ca F ((putK kvs k v).map Prod.snd) ((storeK ds k d).map Prod.snd) := by
  obtain ⟨a, b, c⟩ := storeK_ok (k := k) h e r
  unfold putK storeK
  rw [a]
  split
  · exact ⟨b, c⟩
  · rw [List.map_append, List.map_append, e, List.map_append, List.map_append]
    exact ⟨rfl, r.append (.one h)⟩
/-- x[k] = v, of lists and dicts -/
def rSetA : TSet := fun o i v H Q => rSetL o i v H Q ∨ rSetD o i v H Q
theorem set_any {X : Cx} (hu : X.A.units + 1 < cLine) : PSet X rSetA := fun pins s σ H o i v ov iv u Q I ro ri rv h =>
  h.elim (set_list pins s σ H o i v ov iv u Q I ro ri rv) (set_dict hu pins s σ H o i v ov iv u Q I ro ri rv)
theorem put_ok {a : Addr} {o : HO} {x k d : D} {iv v : V} {r : D × D} {Q : Hp → Prop} (e : Same F H) (hH : H a = some o) (ho : Ob K ca F o x) (rk : Rp K ca F iv k) (rv : Rp K ca F v d) (h : mop .put x [k, d] = some r) (q : ∀ o', Ob K ca F o' r.2 → Q (upd H a o')) : rSetA (.ref a) iv v H Q := by
  simp only [mop] at h
  split at h
  · rename_i xs i d' heq
    cases heq
    cases ho with
    | lst hr =>
      cases z : ixN xs.length i with
      | none => rw [z] at h; cases h
      | some j =>
        rw [z] at h
        cases h
        cases rk
        exact .inl ⟨a, _, i, j, rfl, rfl, hH, by rw [hr.length]; exact z, q _ (.lst (Rps.set rv j hr))⟩
  · rename_i kvs k' d' heq
    cases heq
    cases ho with
    | dk hk hr =>
      unfold dPut at h
      dsimp only at h
      split at h
      · rename_i hz
        cases z : toKey k with
        | none => rw [z] at h; cases h
        | some kk =>
          rw [z] at h
          cases h
          have ev := Rr.toKey (H := H) (.inl rk) z
          subst ev
          obtain ⟨p1, p2⟩ := putK_ok (k := kk) rv hk hr
          have hl := congrArg List.length hk
          rw [List.length_map, List.length_map] at hl
          exact .inr ⟨a, _, rfl, DPut.k hH (by rw [hl]; exact lim2 hz), q _ (.dk p1 p2)⟩
      · cases h
  · rename_i kvs k' d' heq
    cases heq
    cases ho with
    | dt hk hr =>
      cases rk with
      | tup q1 q2 =>
        rename_i ks
        have h2 : (match (if kvs.length < 1000000 then (toKeys ks).map fun k => D.dt (storeK kvs k d) else none) with
          | some z => some (D.non, z)
          | none => none) = some r := by
          rw [← h]
          show _ = Option.map _ (if kvs.length < 1000000 then (toKeys ks).map fun k => D.dt (storeK kvs k d) else none)
          split <;> (rename_i z; rw [z]; rfl)
        by_cases hz : kvs.length < 1000000
        · rw [if_pos hz] at h2
          cases z : toKeys ks with
          | none => rw [z] at h2; cases h2
          | some kk =>
            rw [z] at h2
            cases h2
            have ev := q2.toKeys z
            subst ev
            obtain ⟨p1, p2⟩ := putK_ok (k := kk) rv hk hr
            have hl := congrArg List.length hk
            rw [List.length_map, List.length_map] at hl
            exact .inr ⟨a, _, rfl, DPut.t hH (e _ _ q1) (by rw [hl]; exact lim2 hz), q _ (.dt p1 p2)⟩
        · rw [if_neg hz] at h2; cases h2
      | _ => cases h
  · cases h
end
end DV


set_option maxRecDepth 100000
set_option maxHeartbeats 4000000
/-! DV13: the rules for statements. -/
namespace DV
open PySem PySem.Spec PyProof.Rows L2

section
variable {X : Cx} {W : WX} {ca : Nat → Addr} {T : Tab} {calls : Calls} {ro : Bool} {e e2 c : Expr} {st : Stmt} {sts rest : List Stmt} {pos pos' : Pos}
abbrev DS (X : Cx) (W : WX) (ca : Nat → Addr) (T : Tab) (calls : Calls) (ro : Bool) (st : Stmt) (c : SC) : Prop := PS X st (tSt X.K ca T calls W ro c)
abbrev DSs (X : Cx) (W : WX) (ca : Nat → Addr) (T : Tab) (calls : Calls) (ro : Bool) (st : List Stmt) (c : SCs) : Prop := PSs X st (tSts X.K ca T calls W ro c)
theorem dss_nil : DSs X W ca T calls ro [] .nil := PSs.imp pss_nil fun D σ H ⟨g, F, env, s, k⟩ => k σ F H s (Same.refl _)
theorem dss_cons {s : SC} {r : SCs} (h1 : DS X W ca T calls ro st s) (h2 : DSs X W ca T calls ro rest r) : DSs X W ca T calls ro (st :: rest) (.cons s r) := PSs.imp (pss_cons h1 h2) fun D σ H h => tSts_cons h
theorem ds_pass : DS X W ca T calls ro (.Pass pos) .pass := PS.imp ps_pass fun D σ H ⟨g, F, env, s, k⟩ => k σ F H s (Same.refl _)
theorem ds_brk : DS X W ca T calls ro (.Break pos) .brk := PS.imp ps_break fun D σ H ⟨g, F, env, s, k⟩ => k σ F H s (Same.refl _)
theorem ds_cont : DS X W ca T calls ro (.Continue pos) .cont := PS.imp ps_continue fun D σ H ⟨g, F, env, s, k⟩ => k σ F H s (Same.refl _)
theorem ds_never : DS X W ca T calls ro st .never := PS.imp ps_never fun D σ H ⟨g, F, env, s, k⟩ => k
theorem ds_doc {x j p p'} : DS X W ca T calls ro (.Expr (.Constant (.str x) j p) p') .pass := PS.imp ps_doc fun D σ H ⟨g, F, env, s, k⟩ => k σ F H s (Same.refl _)
theorem ds_expr {a : EC} (h : DE X W ca T calls e a) (hs : swapsWith e none pos.line X.env = pure false := by rfl) : DS X W ca T calls ro (.Expr e pos) (.expr a) := PS.imp (ps_expr h hs) fun D σ H ⟨g, F, env, s, k⟩ =>
  ⟨g, F, env, s, Post.mono (fun d e1 h1 v F' H' s1 f1 r1 => h1 σ F' H' s1 f1) (endOk_bind k)⟩
theorem ds_ret {a : EC} (h : DE X W ca T calls e a) : DS X W ca T calls false (.Return (some e) pos) (.ret a) := PS.imp (ps_ret h) fun D σ H ⟨g, F, env, s, k⟩ =>
  ⟨g, F, env, s, Post.mono (fun d e1 h1 v F' H' s1 f1 r1 => h1 v σ F' H' s1 f1 r1) (endOk_bind k)⟩
theorem ds_retO {a : OC} (h : DO X W ca T calls e a) : DS X W ca T calls true (.Return (some e) pos) (.retO a) := PS.imp (ps_ret h) fun D σ H ⟨g, F, env, s, k⟩ =>
  ⟨g, F, env, s, Post.mono (fun d e1 h1 v F' H' s1 f1 r1 => h1 v σ F' H' s1 f1 r1) (endOk_bind k)⟩
theorem ds_retN : DS X W ca T calls false (.Return none pos) .retN := PS.imp ps_retN fun D σ H ⟨g, F, env, s, k⟩ => k .non σ F H s (Same.refl _) .non
theorem ds_if {a : EC} {b1 b2 : SCs} (hc : DT X W ca T calls c a) (h1 : DSs X W ca T calls ro sts b1) (h2 : DSs X W ca T calls ro rest b2) : DS X W ca T calls ro (.If c sts rest pos) (.ite a b1 b2) := PS.imp (ps_if hc h1 h2) fun D σ H ⟨g, F, env, s, k⟩ => by
  refine ⟨g, F, env, s, Post.mono (fun d e1 h3 => ?_) (endOk_bind k)⟩
  cases d with
  | bl b =>
    refine ⟨b, rfl, fun F' H' s1 f1 => ?_⟩
    cases b with
    | true => exact ⟨g, F', e1, s1, EndOk.mono h3 f1⟩
    | false => exact ⟨g, F', e1, s1, EndOk.mono h3 f1⟩
  | _ => exact h3.elim
theorem ds_set {i : Nat} {x : Str} {a : EC} (h : DE X W ca T calls e a) (hN : X.N.Nodup) (hi : X.N[i]? = some x := by rfl) (hx : Loc X.env.scope x := by first | exact Or.inl rfl | exact Or.inr rfl) (hs : swapsWith e (some (.Name x pos')) pos.line X.env = pure false := by rfl)
    (hf : X.fn x = true ∨ X.env.scope.names.lookup x = some .local := by first | exact Or.inl rfl | exact Or.inr rfl) : DS X W ca T calls ro (.Assign [.Name x pos'] e pos) (.set i a) := PS.imp (ps_set hN hi hx h hs hf) fun D σ H ⟨g, F, env, s, k⟩ => by
  refine ⟨g, F, env, s, Post.mono (fun d e1 h1 v F' H' s1 f1 r1 => ?_) (endOk_bind k)⟩
  obtain ⟨e2, h2, h3⟩ := endOk_nxO h1
  obtain ⟨hl, rfl⟩ := setD_some h2
  exact h3 _ F' H' (s1.setFz r1 hl) f1
theorem ds_setO {i : Nat} {x : Str} {a : OC} (h : DO X W ca T calls e a) (hN : X.N.Nodup) (hi : X.N[i]? = some x := by rfl) (hx : Loc X.env.scope x := by first | exact Or.inl rfl | exact Or.inr rfl) (hs : swapsWith e (some (.Name x pos')) pos.line X.env = pure false := by rfl)
    (hf : X.fn x = true ∨ X.env.scope.names.lookup x = some .local := by first | exact Or.inl rfl | exact Or.inr rfl) : DS X W ca T calls ro (.Assign [.Name x pos'] e pos) (.setO i a) := PS.imp (ps_set hN hi hx h hs hf) fun D σ H ⟨g, F, env, s, k⟩ => by
  refine ⟨g, F, env, s, Post.mono (fun d e1 h1 v F' H' s1 f1 r1 => ?_) (endOk_bind k)⟩
  obtain ⟨e2, h2, h3⟩ := endOk_nxO h1
  obtain ⟨hl, rfl⟩ := setD_some h2
  exact h3 _ F' H' (s1.setOwn r1 hl) f1
theorem setTg_tup {is : List Nat} {ds : List D} {env env1 : Ce} (h : setTg (.tup is) (.tup ds) env = some env1) : is.length = ds.length ∧ (is.all fun i => decide (i < env.length)) = true ∧ env1 = (is.zip ds).foldl (fun e p => e.set p.1 (.fz p.2)) env := by
  have h' : (if is.length = ds.length ∧ (is.all fun i => decide (i < env.length)) = true then some ((is.zip ds).foldl (fun e p => e.set p.1 (.fz p.2)) env) else none) = some env1 := h
  by_cases z : is.length = ds.length ∧ (is.all fun i => decide (i < env.length)) = true
  · rw [if_pos z] at h'; cases h'; exact ⟨z.1, z.2, rfl⟩
  · rw [if_neg z] at h'; cases h'
theorem ds_unpT {es : List Expr} {is : List Nat} {kk : Nat} {a : EC} (h : DE X W ca T calls e a) (hc : X.calm = true) (ht : PGs X es (gNames is)) (hl : es.length = is.length := by rfl) (hn : (assignEach es X.env).length = es.length := by rfl) (hst : (assignEach es X.env).findIdx? (·.1) = none := by rfl)
    (hs : swapsWithSole [.Tuple es kk pos'] e pos.line X.env = pure false := by rfl) (hw : swappedStores [.Tuple es kk pos'] e X.env = pure none := by rfl) (h1 : (assignEach [.Tuple es kk pos'] X.env).map (·.2) = [assign (.Tuple es kk pos') X.env] := by rfl) :
    DS X W ca T calls ro (.Assign [.Tuple es kk pos'] e pos) (.unp false is a) := PS.imp (ps_asg h (pg_tup hc ht hn hst) hs hw h1) fun D σ H ⟨g, F, env, s, k⟩ => by
  refine ⟨g, F, env, s, Post.mono (fun d e1 h1 v F' H' s1 f1 r1 => ?_) (endOk_bind k)⟩
  cases d with
  | tup ds =>
    obtain ⟨e2, h2, h3⟩ := endOk_nxO h1
    obtain ⟨z1, z2, rfl⟩ := setTg_tup h2
    cases r1 with
    | tup q r => exact ⟨_, _, rfl, SqT.of (s1.fh _ _ q), by rw [r.length, hl, z1], gNames_ok s1 r z1 z2 fun σ' s' _ => h3 σ' F' H' s' f1⟩
  | _ => exact h1.elim
theorem ds_unpL {es : List Expr} {is : List Nat} {kk : Nat} {a : EC} (h : DE X W ca T calls e a) (hc : X.calm = true) (ht : PGs X es (gNames is)) (hl : es.length = is.length := by rfl) (hn : (assignEach es X.env).length = es.length := by rfl) (hst : (assignEach es X.env).findIdx? (·.1) = none := by rfl)
    (hs : swapsWithSole [.Tuple es kk pos'] e pos.line X.env = pure false := by rfl) (hw : swappedStores [.Tuple es kk pos'] e X.env = pure none := by rfl) (h1 : (assignEach [.Tuple es kk pos'] X.env).map (·.2) = [assign (.Tuple es kk pos') X.env] := by rfl) :
    DS X W ca T calls ro (.Assign [.Tuple es kk pos'] e pos) (.unp true is a) := PS.imp (ps_asg h (pg_lst hc ht hn hst) hs hw h1) fun D σ H ⟨g, F, env, s, k⟩ => by
  refine ⟨g, F, env, s, Post.mono (fun d e1 h1 v F' H' s1 f1 r1 => ?_) (endOk_bind k)⟩
  cases d with
  | lst ds =>
    obtain ⟨e2, h2, h3⟩ := endOk_nxO h1
    obtain ⟨z1, z2, rfl⟩ := setTg_tup h2
    cases r1 with
    | lst q r => exact ⟨_, _, rfl, SqL.of (s1.fh _ _ q), by rw [r.length, hl, z1], gNames_ok s1 r z1 z2 fun σ' s' _ => h3 σ' F' H' s' f1⟩
  | _ => exact h1.elim
theorem ds_aug {i : Nat} {x : Str} {op : Operator} {ti : R2} {o : Op} {a : EC} (h : DE X W ca T calls e a) (ho : PIp X op ti) (hR : OpS X.K ca o (R2L ti)) (hN : X.N.Nodup) (hi : X.N[i]? = some x := by rfl) (hx : Loc X.env.scope x := by first | exact Or.inl rfl | exact Or.inr rfl)
    (h0 : ∀ a b, opD o [a, b] = op2 o a b := by intro _ _; rfl) (hf : X.fn x = true ∨ X.env.scope.names.lookup x = some .local := by first | exact Or.inl rfl | exact Or.inr rfl) : DS X W ca T calls ro (.AugAssign (.Name x pos') op e pos) (.aug i o a) :=
  PS.imp (ps_aug hN hi hx h ho hf) fun D σ H ⟨g, F, env, s, k⟩ => by
    have k2 : EndOk X.K ca W ro g F D (match env[i]? with
      | some (.fz x) => bindF (evE T calls a env) fun y env' => nxO (augD i x o y env')
      | _ => none) := k
    cases q : env[i]? with
    | none => rw [q] at k2; exact k2.elim
    | some c =>
      rw [q] at k2
      cases c with
      | fz d0 =>
        obtain ⟨ov, h1, v, rfl, rv⟩ := s.cel i _ q
        refine ⟨v, h1, g, F, env, s, Post.mono (fun y e1 h2 v1 F1 H1 s1 f1 r1 => ?_) (endOk_bind k2)⟩
        obtain ⟨e2, h3, h4⟩ := endOk_nxO h2
        have h5 : (match op2 o d0 y with
          | some d => setD i (.fz d) e1
          | none => none) = some e2 := h3
        cases q2 : op2 o d0 y with
        | none => rw [q2] at h5; cases h5
        | some d =>
          rw [q2] at h5
          obtain ⟨hl, rfl⟩ := setD_some h5
          obtain ⟨x', y', e3, h4⟩ := hR F1 H1 [v, v1] [d0, y] d (fun z H2 => D.nx (σ.set i (some z)) H2) s1.fh (.cons (.inl (rv.mono f1)) (.cons (.inl r1) .nil)) (by rw [h0]; exact q2) fun u F2 H2 x ru => h4 _ F2 H2 ((s1.ext x).setFz ru hl) (f1.trans x.ff)
          injection e3 with e4 e5
          injection e5 with e5 _
          rw [e4, e5]
          exact h4
      | _ => exact k2.elim
theorem get_list {X : Cx} : PGet X (rIxL X.K) := fun pins s σ H o i ov iv Q I ro ri h => by
  obtain ⟨p, xs, k, z, rfl, rfl, hq, he, q⟩ := h
  cases ro
  obtain ⟨t, rfl⟩ := ri
  obtain ⟨us, r, pl, hz⟩ := I.list hq
  obtain ⟨j, h1, h2, h3, h4, h5⟩ := atI_get he
  obtain ⟨w', ew, rw'⟩ := r.get h2
  have hl := r.length
  have hn := line63
  by_cases h0 : 0 ≤ k
  · have hj : k.toNat = j := by
      rw [seqIndex_of h0 h5] at h1
      exact Option.some.inj h1
    exact wpAny_getItem_list pl.isList h0 (by omega) (by rw [hj]; simpa using ew) ⟨z, H, I, rw', q⟩
  · have hj : (k + (us.toArray.size : Int)).toNat = j := by
      rw [seqIndex_neg (by omega) h4] at h1
      rw [List.size_toArray, ← hl]
      exact Option.some.inj h1
    exact wpAny_getItem_list_neg pl.isList (by omega) (by rw [List.size_toArray] <;> omega) (by omega) (by rw [hj]; simpa using ew) ⟨z, H, I, rw', q⟩
theorem ds_put {i : Nat} {x : Str} {ix : Expr} {p sp : Pos} {a b : EC} (hu : X.A.units + 1 < cLine) (hx : PE X (.Name x p) (tVar i)) (hi : DE X W ca T calls ix b) (hv : DE X W ca T calls e a)
    (ha : ∀ v, assign (.Subscript (.Name x p) ix sp) X.env v = (do
      let ov ← holding [v] (eval (.Name x p) X.env)
      let iv ← holding [v, ov] (eval ix X.env)
      standAt sp; holding [v, ov, iv] (setItem ov iv v); release [v, ov, iv] []) := by intro _; rfl)
    (hs : swapsWithSole [.Subscript (.Name x p) ix sp] e pos.line X.env = pure false := by rfl) (hw : swappedStores [.Subscript (.Name x p) ix sp] e X.env = pure none := by rfl) (h1 : (assignEach [.Subscript (.Name x p) ix sp] X.env).map (·.2) = [assign (.Subscript (.Name x p) ix sp) X.env] := by rfl) :
    DS X W ca T calls ro (.Assign [.Subscript (.Name x p) ix sp] e pos) (.put i b a) := PS.imp (ps_asg hv (pg_sub hx hi (set_any hu) ha) hs hw h1) fun D σ H ⟨g, F, env, s, k⟩ => by
  refine ⟨g, F, env, s, Post.mono (fun d e1 h1 v F1 H1 s1 f1 r1 => ?_) (endOk_bind k)⟩
  have h2 : EndOk X.K ca W ro g F D (match cellD e1 i with
    | some _ => bindF (evE T calls b e1) fun k env2 => nxO (putD i k d env2)
    | none => none) := h1
  cases q : cellD e1 i with
  | none => rw [q] at h2; exact h2.elim
  | some d0 =>
    rw [q] at h2
    obtain ⟨u, h3, _⟩ := s1.readC q
    refine ⟨u, h3, g, F1, e1, s1, Post.mono (fun k e2 h4 iv F2 H2 s2 f2 r2 => ?_) (endOk_bind h2)⟩
    obtain ⟨e3, h5, h6⟩ := endOk_nxO h4
    obtain ⟨c, x, r, y1, y2, y3, y4, rfl⟩ := putD_some h5
    obtain ⟨a2, o, d2, w1, w2, w3, w4, w5, w6⟩ := s2.mine y1 y2
    rw [h3] at w2
    cases w2
    rw [y3] at w1
    cases w1
    exact put_ok s2.fh w3 w4 r2 (r1.mono f2) y4 fun o' ho => h6 σ F2 _ (s2.write y1 y2 h3 w3 ho) (f1.trans f2)
theorem ds_augI {i : Nat} {x : Str} {ix : Expr} {p sp : Pos} {op : Operator} {ti : R2} {o : Op} {a b : EC} (hu : X.A.units + 1 < cLine) (hx : PE X (.Name x p) (tVar i)) (hi : DE X W ca T calls ix b) (hv : DE X W ca T calls e a) (ho : PIp X op ti) (hR : OpS X.K ca o (R2L ti)) (h0 : ∀ a b, opD o [a, b] = op2 o a b := by intro _ _; rfl)
    (ha : ∀ ov iv new, augStore ix ov iv new = (do holding [new, ov, iv] (setItem ov iv new); release [new, ov, iv] []; pure .next) := by intros; rfl) :
    DS X W ca T calls ro (.AugAssign (.Subscript (.Name x p) ix sp) op e pos) (.augI i o b a) := PS.imp (ps_augS hx hi get_list hv ho (set_any hu) ha) fun D σ H ⟨g, F, env, s, k⟩ => by
  have k0 : EndOk X.K ca W ro g F D (match cellD env i with
    | some _ => bindF (evE T calls b env) fun k env1 => (match cellD env1 i with
      | some (.lst xs) => (match opD .idx [.lst xs, k] with
        | some old => bindF (evE T calls a env1) fun y env2 => (match op2 o old y with
          | some new => nxO (putD i k new env2)
          | none => none)
        | none => none)
      | _ => none)
    | none => none) := k
  cases q : cellD env i with
  | none => rw [q] at k0; exact k0.elim
  | some d0 =>
    rw [q] at k0
    obtain ⟨u, h3, _⟩ := s.readC q
    refine ⟨u, h3, g, F, env, s, Post.mono (fun k e1 h4 iv F1 H1 s1 f1 r1 => ?_) (endOk_bind k0)⟩
    cases q1 : cellD e1 i with
    | none => rw [q1] at h4; exact h4.elim
    | some x1 =>
      rw [q1] at h4
      cases x1 with
      | lst xs =>
        dsimp only at h4
        obtain ⟨u', h5, h6⟩ := s1.readC q1
        rw [h3] at h5
        cases h5
        cases q2 : opD .idx [.lst xs, k] with
        | none => rw [q2] at h4; exact h4.elim
        | some old =>
          rw [q2] at h4
          obtain ⟨l, vs, rfl, hl, rl⟩ := h6.lst s1.fh
          cases k with
          | int kk =>
            have q3 : atI xs kk = some old := q2
            obtain ⟨w1, w2, rw'⟩ := atI_rps rl q3
            cases r1
            refine ⟨l, vs, kk, w1, rfl, rfl, SqL.of hl, w2, g, F1, e1, s1, Post.mono (fun y e2 h7 v2 F2 H2 s2 f2 r2 => ?_) (endOk_bind h4)⟩
            cases q4 : op2 o old y with
            | none => rw [q4] at h7; exact h7.elim
            | some new =>
              rw [q4] at h7
              obtain ⟨x', y', e3, h8⟩ := hR F2 H2 [w1, v2] [old, y] new (fun z H3 => rSetA (.ref l) (.int kk) z H3 fun H6 => D.nx σ H6) s2.fh (.cons (.inl (rw'.mono f2)) (.cons (.inl r2) .nil)) (by rw [h0]; exact q4) fun v3 F3 H3 x3 r3 => by
                obtain ⟨e3, h5, h6⟩ := endOk_nxO h7
                obtain ⟨c, x, r, y1, y2, y3, y4, rfl⟩ := putD_some h5
                have s3 := s2.ext x3
                obtain ⟨a2, o, d2, w1, w2, w3, w4, w5, w6⟩ := s3.mine y1 y2
                rw [h3] at w2
                cases w2
                rw [y3] at w1
                cases w1
                exact put_ok s3.fh w3 w4 (.int kk) r3 y4 fun o' ho => h6 σ F3 _ (s3.write y1 y2 h3 w3 ho) (f1.trans (f2.trans x3.ff))
              injection e3 with e4 e5
              injection e5 with e5 _
              rw [e4, e5]
              exact h8
          | _ => cases q2
      | _ => exact h4.elim
theorem putF_new {f : Str} {v : V} : ∀ {fs : List (Str × V)}, (fs.map Prod.fst).contains f = false → putF f v fs = fs ++ [(f, v)]
  | [], _ => rfl
  | (g, x) :: r, h => by
    rw [List.map_cons, List.contains_cons, Bool.or_eq_false_iff] at h
    have hn : ¬ g = f := fun z => by
      rw [z] at h
      simp at h
    show (if g = f then (g, v) :: r else (g, x) :: putF f v r) = _
    rw [if_neg hn, putF_new h.2]
    rfl
theorem ds_fset {i : Nat} {x f : Str} {p fp : Pos} {a : EC} (hA : AttrOk X.K ca T) (hx : PE X (.Name x p) (tVar i)) (hv : DE X W ca T calls e a) (hs : swapsWith e (some (.Attribute (.Name x p) f fp)) pos.line X.env = pure false := by rfl) :
    DS X W ca T calls ro (.Assign [.Attribute (.Name x p) f fp] e pos) (.fset i f a) := PS.imp (ps_fld hx hv hs) fun D σ H ⟨g, F, env, s, k⟩ => by
  refine ⟨g, F, env, s, Post.mono (fun d e1 h1 v F1 H1 s1 f1 r1 => ?_) (endOk_bind k)⟩
  obtain ⟨e2, h2, h3⟩ := endOk_nxO h1
  unfold fsetD at h2
  split at h2
  · rename_i c hc
    split at h2
    · rename_i hm
      split at h2
      · rename_i kc fs hval
        split at h2
        · rename_i hq
          cases h2
          obtain ⟨a2, o, d2, w1, w2, w3, w4, w5, w6⟩ := s1.mine hc hm
          rw [hval] at w1
          cases w1
          obtain ⟨cl, na⟩ := hA kc f hq.1
          cases w4 with
          | obj ek rk =>
            rename_i dx fvs
            have hlen := congrArg List.length ek
            rw [List.length_map, List.length_map] at hlen
            have hc' : (fvs.map Prod.fst).contains f = false := by rw [ek]; exact hq.2.2
            refine ⟨_, w2, a2, _, dx, fvs, rfl, w3, cl, na, by rw [hlen]; omega, ?_⟩
            rw [putF_new hc']
            refine h3 σ F1 _ (s1.write hc hm w2 w3 (.obj ?_ ?_)) f1
            · rw [List.map_append, List.map_append, ek]; rfl
            · rw [List.map_append, List.map_append]; exact rk.append (.one r1)
        · cases h2
      · cases h2
    · cases h2
  · cases h2
theorem ds_par {i j : Nat} {x y : Str} {a b : Expr} {ac bc : EC} {px py pt : Pos} {kt k2 pt2} (hc : X.calm = true) (hN : X.N.Nodup) (ha : DE X W ca T calls a ac) (hb : DE X W ca T calls b bc) (hi : X.N[i]? = some x := by rfl) (hj : X.N[j]? = some y := by rfl) (hij : i ≠ j := by decide)
    (hx : X.env.scope.names.lookup x = some .local := by rfl) (hy : X.env.scope.names.lookup y = some .local := by rfl) (hw : swappedStores [.Tuple [.Name x px, .Name y py] kt pt] (.Tuple [a, b] k2 pt2) X.env = pure (some [x, y]) := by rfl) (hs : swapsWithSole [.Tuple [.Name x px, .Name y py] kt pt] (.Tuple [a, b] k2 pt2) pos.line X.env = pure false := by rfl)
    (s1 : starEach [a, b] X.env = (false, eval a X.env) :: starEach [b] X.env := by rfl) (s2 : starEach [b] X.env = (false, eval b X.env) :: starEach [] X.env := by rfl) :
    DS X W ca T calls ro (.Assign [.Tuple [.Name x px, .Name y py] kt pt] (.Tuple [a, b] k2 pt2) pos) (.par i j ac bc) := PS.imp (ps_par hc hN hi hj hij hx hy (pa_cons ha (pa_cons hb pa_nil s2) s1) hw hs) fun D σ H ⟨g, F, env, s, k⟩ => by
  refine ⟨g, F, env, s, Post.mono (fun d e1 h1 v F1 H1 s1 f1 r1 => ?_) (endOk_bind k)⟩
  refine ⟨g, F1, e1, s1, Post.mono (fun d2 e2 h2 v2 F2 H2 s2 f2 r2 => ?_) (endOk_bind h1)⟩
  refine ⟨v, v2, rfl, ?_⟩
  have h3 : EndOk X.K ca W ro g F D (if i < e2.length ∧ j < e2.length ∧ i ≠ j then some (.nx ((e2.set i (.fz d)).set j (.fz d2))) else none) := h2
  by_cases z : i < e2.length ∧ j < e2.length ∧ i ≠ j
  · rw [if_pos z] at h3
    exact h3 _ F2 H2 ((s2.setFz (r1.mono f2) z.1).setFz r2 (by rw [List.length_set]; exact z.2.1)) (f1.trans f2)
  · rw [if_neg z] at h3; exact h3.elim

/-! ### loops -/
/-- what the turns of a for are to keep -/
theorem ds_for {tg : Expr} {it : IC} {t : Tg} {b : SCs} (hp : PassesOwn (model X.prog X.w) X.A X.env X.xe) (hc : X.calm = true) (hi : DI X W ca T calls tg e it) (hg : DG X ca tg t) (hb : DSs X W ca T calls ro sts b) (hs : ∀ x, foldedSetIterable e X.env x = pure x := by intro _; rfl) :
    DS X W ca T calls ro (.For tg e sts [] pos) (.for_ it t b) := PS.imp (ps_for hp hc hi hg hb hs) fun D σ H ⟨g, F, env, s, k⟩ => by
  refine ⟨g, F, env, s, Post.mono (fun ds e1 h1 J F1 H1 s1 f1 wk => ?_) (endOk_bind k)⟩
  refine ⟨fun i m σ H => i ≤ ds.length ∧ m = ds.length - i ∧ ∃ F2 e2, StOk X.K ca g F2 H σ e2 ∧ Same F1 F2 ∧ EndOk X.K ca W ro g F D (forD (fun x e => match setTg t x e with
      | some e1 => evSs T calls b e1
      | none => none) (ds.drop i) e2), ⟨_, Nat.zero_le _, rfl, F1, e1, s1, Same.refl _, h1⟩, ?_⟩
  rintro i m σ2 H2 ⟨hi, rfl, F2, e2, s2, f2, h2⟩
  obtain ⟨w1, w2⟩ := wk F2 H2 f2 s2.fh
  by_cases hl : i < ds.length
  · have ed : ds[i]? = some ds[i] := List.getElem?_eq_getElem hl
    obtain ⟨w3, w4⟩ := w1 i _ ed
    refine .inr ⟨w3, fun σ' H' => i + 1 ≤ ds.length ∧ ∃ F3 e3, StOk X.K ca g F3 H' σ' e3 ∧ Same F1 F3 ∧ EndOk X.K ca W ro g F D (forD (fun x e => match setTg t x e with
      | some e1 => evSs T calls b e1
      | none => none) (ds.drop (i + 1)) e3), fun σ' H' ⟨y1, F3, e3, y2, y3, y4⟩ => ⟨ds.length - (i + 1), by omega, y1, rfl, F3, e3, y2, y3, y4⟩, fun x H3 y => ?_⟩
    obtain ⟨F3, x3, r3⟩ := w4 x H3 y
    rw [List.drop_eq_getElem_cons hl] at h2
    have h3 : EndOk X.K ca W ro g F D (match (match setTg t ds[i] e2 with
        | some e1 => evSs T calls b e1
        | none => none) with
      | some (.nx env') => forD (fun x e => match setTg t x e with
        | some e1 => evSs T calls b e1
        | none => none) (ds.drop (i + 1)) env'
      | some (.ct env') => forD (fun x e => match setTg t x e with
        | some e1 => evSs T calls b e1
        | none => none) (ds.drop (i + 1)) env'
      | some (.bk env') => some (.nx env')
      | r => r) := h2
    cases q : setTg t ds[i] e2 with
    | none => rw [q] at h3; exact h3.elim
    | some e4 =>
      rw [q] at h3
      dsimp only at h3
      refine ⟨g, F3, e2, ds[i], e4, s2.ext x3, r3, q, fun σ3 s3 _ => ⟨g, F3, e4, s3, ?_⟩⟩
      have ff : Same F F3 := f1.trans (f2.trans x3.ff)
      cases q2 : evSs T calls b e4 with
      | none => rw [q2] at h3; exact h3
      | some r =>
        rw [q2] at h3
        cases r with
        | nx e5 => exact fun σ' F' H' s' f' => ⟨hl, F', e5, s', (f2.trans x3.ff).trans f', h3⟩
        | ct e5 => exact fun σ' F' H' s' f' => ⟨hl, F', e5, s', (f2.trans x3.ff).trans f', h3⟩
        | bk e5 => exact EndOk.mono (r := some (.nx e5)) h3 ff
        | rt d e5 => exact EndOk.mono (r := some (.rt d e5)) h3 ff
        | ex c fs e5 => exact h3
  · have hi' : i = ds.length := by omega
    subst hi'
    rw [List.drop_length] at h2
    exact .inl ⟨w2, h2 σ2 F2 H2 s2 (f1.trans f2)⟩
theorem ds_while {a : EC} {b : SCs} (hp : PassesOwn (model X.prog X.w) X.A X.env X.xe) (hc : DT X W ca T calls c a) (hb : DSs X W ca T calls ro sts b) :
    DS X W ca T calls ro (.While c sts [] pos) (.whl a b) := PS.imp (ps_while hp hc hb) fun D σ H ⟨g, F, env, s, k⟩ => by
  have k0 : EndOk X.K ca W ro g F D (whD (fun e => evE T calls a e) (fun e => evSs T calls b e) env) := k
  unfold whD at k0
  split at k0
  · rename_i hex
    have hr := Classical.choose_spec (Classical.choose_spec hex)
    refine ⟨fun m σ H => ∃ F2 e2 r, StOk X.K ca g F2 H σ e2 ∧ Same F F2 ∧ whC (fun e => evE T calls a e) (fun e => evSs T calls b e) m e2 = some r ∧ EndOk X.K ca W ro g F D (some r), ⟨_, F, env, _, s, Same.refl _, hr, k0⟩, ?_⟩
    rintro m σ2 H2 ⟨F2, e2, r, s2, f2, h1, h2⟩
    cases m with
    | zero => cases h1
    | succ m =>
      have h3 : bindF (evE T calls a e2) (fun d e1 => match d with
        | .bl true => (match evSs T calls b e1 with
          | some (.nx e2) => whC (fun e => evE T calls a e) (fun e => evSs T calls b e) m e2
          | some (.ct e2) => whC (fun e => evE T calls a e) (fun e => evSs T calls b e) m e2
          | some (.bk e2) => some (.nx e2)
          | r => r)
        | .bl false => some (.nx e1)
        | _ => none) = some r := h1
      rw [← h3] at h2
      refine ⟨g, F2, e2, s2, Post.mono (fun d e3 h4 => ?_) (endOk_bind h2)⟩
      cases d with
      | bl bb =>
        cases bb with
        | false => exact ⟨false, rfl, fun F3 H3 s3 f3 => h4 σ2 F3 H3 s3 (f2.trans f3)⟩
        | true =>
          refine ⟨true, rfl, fun F3 H3 s3 f3 => ⟨fun σ' H' => ∃ F4 e4 r, StOk X.K ca g F4 H' σ' e4 ∧ Same F F4 ∧ whC (fun e => evE T calls a e) (fun e => evSs T calls b e) m e4 = some r ∧ EndOk X.K ca W ro g F D (some r),
            fun σ' H' y => ⟨m, Nat.lt_succ_self _, y⟩, g, F3, e3, s3, ?_⟩⟩
          have ff : Same F F3 := f2.trans f3
          dsimp only at h4
          cases q : evSs T calls b e3 with
          | none => rw [q] at h4; exact h4
          | some fl =>
            rw [q] at h4
            have fin : ∀ {e5 : Ce}, EndOk X.K ca W ro g F D (whC (fun e => evE T calls a e) (fun e => evSs T calls b e) m e5) → ∃ r, whC (fun e => evE T calls a e) (fun e => evSs T calls b e) m e5 = some r ∧ EndOk X.K ca W ro g F D (some r) := fun {e5} h => by
              cases z : whC (fun e => evE T calls a e) (fun e => evSs T calls b e) m e5 with
              | none => rw [z] at h; exact h.elim
              | some r => rw [z] at h; exact ⟨r, rfl, h⟩
            cases fl with
            | nx e5 =>
              obtain ⟨r5, z1, z2⟩ := fin h4
              exact fun σ' F' H' s' f' => ⟨F', e5, r5, s', ff.trans f', z1, z2⟩
            | ct e5 =>
              obtain ⟨r5, z1, z2⟩ := fin h4
              exact fun σ' F' H' s' f' => ⟨F', e5, r5, s', ff.trans f', z1, z2⟩
            | bk e5 => exact EndOk.mono (r := some (.nx e5)) h4 ff
            | rt d e5 => exact EndOk.mono (r := some (.rt d e5)) h4 ff
            | ex c fs e5 => exact h4
      | _ => exact h4.elim
  · exact k0.elim
end
end DV


set_option maxRecDepth 100000
set_option maxHeartbeats 4000000
/-! DV14: comprehensions. -/
namespace DV
open PySem PySem.Spec PyProof.Rows L2

section
variable {K : PySem.W.Frag} {ca : Nat → Addr} {T : Tab} {calls : Calls} {W : WX} {g : Gh} {F F' H H' : Hp} {σ σ' : L2.St} {env env' : Ce} {p : Addr} {o : HO}
/-- no slot of one's own holds p -/
def NoM (σ : L2.St) (env : Ce) (p : Addr) : Prop := ∀ (j : Nat) (c : Cell), env[j]? = some c → c.mine = true → σ[j]? ≠ some (some (.ref p))
/-- p protected -/
abbrev Gh.pro (g : Gh) (p : Addr) (o : HO) : Gh := { g with G := upd g.G p o, H0 := upd g.H0 p o }
theorem StOk.nom (s : StOk K ca g F H σ env) (h : H p = none) : NoM σ env p := fun j c hc m q => by
  obtain ⟨a2, o2, d2, _, w2, w3, _⟩ := s.mine hc m
  rw [q] at w2
  cases w2
  rw [h] at w3
  cases w3
theorem StOk.pro (s : StOk K ca g F H σ env) (hp : H p = some o) (fp : F p = none) (h0 : g.H0 p = none) (nm : NoM σ env p) : StOk K ca (g.pro p o) F H σ env := by
  have gp := s.g0.free h0
  have bp := s.bg.free gp
  have ne : ∀ {b : Addr}, b ≠ p → upd g.H0 p o b = g.H0 b := fun h => upd_ne h
  refine ⟨s.fh, fun b u h => ?_, fun b u h => ?_, fun b u h => ?_, s.f0, fun b u h => ?_, fun b h => ?_, s.len, fun i c h => ?_, s.inj⟩
  · have h : upd g.G p o b = some u := h
    by_cases z : b = p
    · subst z; rw [upd_same] at h; cases h; exact hp
    · rw [upd_ne z] at h; exact s.gh _ _ h
  · have h : upd g.G p o b = some u := h
    by_cases z : b = p
    · subst z; rw [upd_same] at h; cases h; exact upd_same
    · rw [upd_ne z] at h
      show upd g.H0 p o b = _
      rw [ne z]; exact s.g0 _ _ h
  · have z : b ≠ p := fun z => by rw [z, bp] at h; cases h
    show upd g.G p o b = _
    rw [upd_ne z]; exact s.bg _ _ h
  · have z : b ≠ p := fun z => by rw [z, fp] at h; cases h
    rcases s.fr b u h with q | q
    · exact .inl q
    · exact .inr (by show upd g.H0 p o b = _; rw [ne z]; exact q)
  · have z : b ≠ p := fun z => by rw [z, hp] at h; cases h
    show upd g.H0 p o b = _
    rw [ne z]; exact s.dom b h
  · obtain ⟨ov, q1, q2⟩ := s.cel i c h
    refine ⟨ov, q1, ?_⟩
    cases c with
    | emp => trivial
    | fz d => exact q2
    | own d =>
      obtain ⟨a, u, e1, z1, z2, z3, z4⟩ := q2
      have z : a ≠ p := fun z => nm i _ h rfl (by rw [q1, e1, z])
      exact ⟨a, u, e1, z1, z2, z3, by show upd g.H0 p o a = _; rw [ne z]; exact z4⟩
    | brw d => exact q2
    | io d =>
      obtain ⟨a, u, e0, e1, z1, z2, z3, z4⟩ := q2
      have z : a ≠ p := fun z => nm i _ h rfl (by rw [q1, e1, z])
      exact ⟨a, u, e0, e1, z1, z2, z3, by show upd g.G p o a = _; rw [upd_ne z]; exact z4⟩
theorem StOk.unpro (s : StOk K ca (g.pro p o) F H σ env) (g0 : Same g.G g.H0) (bg : Same g.B g.G) (h0 : g.H0 p = none) (f0 : g.F0 p = none) : StOk K ca g F H σ env ∧ H p = some o ∧ F p = none ∧ NoM σ env p := by
  have gp := g0.free h0
  have hp : H p = some o := s.gh p o upd_same
  have ne : ∀ {b : Addr}, upd g.H0 p o b = none → b ≠ p ∧ g.H0 b = none := fun {b} h => by
    by_cases z : b = p
    · subst z; rw [upd_same] at h; cases h
    · rw [upd_ne z] at h; exact ⟨z, h⟩
  have ng : ∀ {b : Addr}, upd g.G p o b = none → b ≠ p ∧ g.G b = none := fun {b} h => by
    by_cases z : b = p
    · subst z; rw [upd_same] at h; cases h
    · rw [upd_ne z] at h; exact ⟨z, h⟩
  have fp : F p = none := by
    cases q : F p with
    | none => rfl
    | some u =>
      rcases s.fr p u q with z | z
      · rw [show g.F0 p = some u from z] at f0; cases f0
      · exact absurd rfl (ne z).1
  refine ⟨⟨s.fh, fun b u h => ?_, g0, bg, s.f0, fun b u h => ?_, fun b h => (ne (s.dom b h)).2, s.len, fun i c h => ?_, s.inj⟩, hp, fp, fun j c h m q => ?_⟩
  · have z : b ≠ p := fun z => by rw [z, gp] at h; cases h
    exact s.gh b u (by show upd g.G p o b = _; rw [upd_ne z]; exact h)
  · rcases s.fr b u h with q | q
    · exact .inl q
    · exact .inr (ne q).2
  · obtain ⟨ov, q1, q2⟩ := s.cel i c h
    refine ⟨ov, q1, ?_⟩
    cases c with
    | emp => trivial
    | fz d => exact q2
    | own d => obtain ⟨a, u, e1, z1, z2, z3, z4⟩ := q2; exact ⟨a, u, e1, z1, z2, z3, (ne z4).2⟩
    | brw d => exact q2
    | io d => obtain ⟨a, u, e0, e1, z1, z2, z3, z4⟩ := q2; exact ⟨a, u, e0, e1, z1, z2, z3, (ng z4).2⟩
  · obtain ⟨ov, q1, q2⟩ := s.cel j c h
    rw [q] at q1
    cases q1
    cases c with
    | own d => obtain ⟨a, u, e1, z1, z2, z3, z4⟩ := q2; cases e1; exact absurd rfl (ne z4).1
    | io d => obtain ⟨a, u, e0, e1, z1, z2, z3, z4⟩ := q2; cases e1; exact absurd rfl (ng z4).1
    | emp => cases m
    | fz d => cases m
    | brw d => cases m
/-- an object that no cell knows is written -/
theorem StOk.updO (s : StOk K ca g F H σ env) {o' : HO} (hp : H p = some o) (fp : F p = none) (h0 : g.G p = none) (nm : NoM σ env p) : StOk K ca g F (upd H p o') σ env := by
  have up : ∀ {b u}, b ≠ p → H b = some u → upd H p o' b = some u := fun hb q => by rw [upd_ne hb]; exact q
  refine ⟨fun b u h => up (fun z => by rw [z, fp] at h; cases h) (s.fh _ _ h), fun b u h => up (fun z => by rw [z, h0] at h; cases h) (s.gh _ _ h), s.g0, s.bg, s.f0, s.fr, fun b h => ?_, s.len, fun i c h => ?_, s.inj⟩
  · by_cases z : b = p
    · subst z; rw [upd_same] at h; cases h
    · rw [upd_ne z] at h; exact s.dom b h
  · obtain ⟨ov, q1, q2⟩ := s.cel i c h
    refine ⟨ov, q1, ?_⟩
    cases c with
    | emp => trivial
    | fz d => exact q2
    | own d =>
      obtain ⟨a, u, e1, z1, z2, z3, z4⟩ := q2
      exact ⟨a, u, e1, up (fun z => nm i _ h rfl (by rw [q1, e1, z])) z1, z2, z3, z4⟩
    | brw d => exact q2
    | io d =>
      obtain ⟨a, u, e0, e1, z1, z2, z3, z4⟩ := q2
      exact ⟨a, u, e0, e1, up (fun z => nm i _ h rfl (by rw [q1, e1, z])) z1, z2, z3, z4⟩
/-- less is known of the slots -/
theorem StOk.part (s : StOk K ca g F H σ env) (hl : σ'.length = env'.length) (h : ∀ (i : Nat) (c : Cell), env'[i]? = some c → c = .emp ∨ (env[i]? = some c ∧ σ'[i]? = σ[i]?) ∨ ∃ d v, c = .fz d ∧ σ'[i]? = some (some v) ∧ Rp K ca F v d) : StOk K ca g F H σ' env' := by
  refine ⟨s.fh, s.gh, s.g0, s.bg, s.f0, s.fr, s.dom, hl, fun i c hc => ?_, fun i j a c e h1 m1 h2 m2 e1 e2 => ?_⟩
  · rcases h i c hc with q | q | ⟨d, v, q1, q2, q3⟩
    · subst q
      have hi : i < σ'.length := by rw [hl]; exact (List.getElem?_eq_some_iff.mp hc).1
      exact ⟨_, List.getElem?_eq_getElem hi, trivial⟩
    · obtain ⟨ov, z1, z2⟩ := s.cel i c q.1
      exact ⟨ov, by rw [q.2]; exact z1, z2⟩
    · subst q1; exact ⟨_, q2, v, rfl, q3⟩
  · have mm : ∀ (x : Nat) (u : Cell), env'[x]? = some u → u.mine = true → env[x]? = some u ∧ σ'[x]? = σ[x]? := fun x u y1 y2 => by
      rcases h x u y1 with q | q | ⟨d, v, q1, q2, q3⟩
      · subst q; cases y2
      · exact q
      · subst q1; cases y2
    obtain ⟨p1, p2⟩ := mm i c h1 m1
    obtain ⟨p3, p4⟩ := mm j e h2 m2
    exact s.inj i j a c e p1 m1 p3 m2 (by rw [← p2]; exact e1) (by rw [← p4]; exact e2)
theorem wipeC_length : ∀ (vs : List Nat) (env : Ce), (wipeC env vs).length = env.length
  | [], _ => rfl
  | v :: vs, env => by
    show ((wipeC env vs).set v .emp).length = _
    rw [List.length_set, wipeC_length]
theorem wipeC_out {i : Nat} : ∀ {vs : List Nat} {env : Ce}, i ∉ vs → (wipeC env vs)[i]? = env[i]?
  | [], _, _ => rfl
  | v :: vs, env, h => by
    rw [List.mem_cons, not_or] at h
    show ((wipeC env vs).set v .emp)[i]? = _
    rw [List.getElem?_set_ne (Ne.symm h.1), wipeC_out h.2]
theorem wipeC_in {i : Nat} {c : Cell} : ∀ {vs : List Nat} {env : Ce}, i ∈ vs → (wipeC env vs)[i]? = some c → c = .emp
  | [], _, h, _ => by cases h
  | v :: vs, env, h, e => by
    have e' : ((wipeC env vs).set v .emp)[i]? = some c := e
    by_cases z : i = v
    · subst z
      obtain ⟨h1, h2⟩ := List.getElem?_eq_some_iff.mp e'
      rw [List.getElem_set_self] at h2
      exact h2.symm
    · rw [List.getElem?_set_ne (Ne.symm z)] at e'
      rcases List.mem_cons.mp h with q | q
      · exact absurd q z
      · exact wipeC_in q e'
theorem wipe_in {σ : L2.St} {i : Nat} : ∀ {vs : List Nat}, i ∈ vs → i < σ.length → (wipe σ vs)[i]? = some none
  | [], h, _ => by cases h
  | v :: vs, h, l => by
    show ((wipe σ vs).set v none)[i]? = _
    by_cases z : i = v
    · subst z
      rw [List.getElem?_set_self (by rw [wipe_length]; exact l)]
    · rw [List.getElem?_set_ne (Ne.symm z)]
      rcases List.mem_cons.mp h with q | q
      · exact absurd q z
      · exact wipe_in q l
theorem wipe_eq {σ σ' : L2.St} {vs : List Nat} (hl : σ'.length = σ.length) (h : ∀ i, i ∉ vs → σ'[i]? = σ[i]?) : wipe σ' vs = wipe σ vs := by
  apply List.ext_getElem?
  intro i
  by_cases z : i ∈ vs
  · by_cases l : i < σ.length
    · rw [wipe_in z l, wipe_in z (by rw [hl]; exact l)]
    · rw [List.getElem?_eq_none (by rw [wipe_length, hl]; omega), List.getElem?_eq_none (by rw [wipe_length]; omega)]
  · rw [wipe_out z, wipe_out z, h i z]
theorem wipe_wipe {σ : L2.St} {vs : List Nat} : wipe (wipe σ vs) vs = wipe σ vs := wipe_eq (wipe_length σ vs) fun i z => by rw [wipe_out z]
theorem StOk.wiped {σ2 : L2.St} {e2 : Ce} {vs : List Nat} (s : StOk K ca g F H σ2 e2) (hl : σ.length = σ2.length) (h : ∀ i, i ∉ vs → σ[i]? = σ2[i]?) : StOk K ca g F H (wipe σ vs) (wipeC e2 vs) := by
  refine s.part (by rw [wipe_length, wipeC_length, hl, s.len]) fun i c hc => ?_
  by_cases z : i ∈ vs
  · exact .inl (wipeC_in z hc)
  · rw [wipeC_out z] at hc
    exact .inr (.inl ⟨hc, by rw [wipe_out z, h i z]⟩)
theorem backC_get {env0 env : Ce} {own : List Nat} {i : Nat} : (backC env0 env own)[i]? = env[i]?.map fun c => if i ∈ own then env0.getD i .emp else c := by
  unfold backC
  rw [List.getElem?_mapIdx]
theorem plainAt_get {own : List Nat} (h : plainAt env own = true) {i : Nat} (hi : i ∈ own) : ∃ c, env[i]? = some c ∧ plainCell c = true := by
  have z := List.all_eq_true.mp h i hi
  split at z
  · exact ⟨_, by assumption, z⟩
  · cases z
/-- the walk of a comprehension -/
theorem lc_ok {own : List Nat} {it : IC} {t : Tg} {step : Ce → Option (Option D × Ce)} {tt : TT} {te : TE} {Q : VK} (ht : ∀ i, i ∈ tgSl t → i ∈ own)
    (hstep : ∀ (g : Gh) (F H : Hp) (σ2 : L2.St) (e1 e2 : Ce) (od : Option D) (Qt : VK) (Qf : Hp → Prop), StOk K ca g F H σ2 e1 → step e1 = some (od, e2) →
      (∀ d, od = some d → ∀ v F' H', StOk K ca g F' H' σ2 e2 → Same F F' → Rp K ca F' v d → Qt v H') → (od = none → ∀ F' H', StOk K ca g F' H' σ2 e2 → Same F F' → Qf H') → tt σ2 H fun b H3 => if b = true then te σ2 H3 Qt else Qf H3)
    (h : ∃ (g : Gh) (F : Hp) (env : Ce), StOk K ca g F H σ env ∧ Post K ca g σ W (fun d env' => ∀ v F' H', StOk K ca g F' H' σ env' → Same F F' → OwnR K ca g F' H' σ env' v d → Q v H')
      (bindX (evI T calls it env) fun items env1 => if plainAt env1 own = true then lcEnd env1 own (lcD (fun x e => match setTg t x (wipeC e own) with
        | some e1 => step e1
        | none => none) items [] env1) else none)) : tLc (tI K ca T calls W it) (gT K ca t) tt te own σ H Q := by
  obtain ⟨g, F, env, s, k⟩ := h
  refine ⟨g, F, env, s, Post.mono (fun ds env1 h1 J F1 H1 s1 f1 wk p hp => ?_) (post_bind k)⟩
  by_cases hpl : plainAt env1 own = true
  · rw [if_pos hpl] at h1
    cases hfin : lcD (fun x e => match setTg t x (wipeC e own) with
        | some e1 => step e1
        | none => none) ds [] env1 with
    | none => rw [hfin] at h1; exact h1.elim
    | some fin =>
      rw [hfin] at h1
      have h0 : g.H0 p = none := s1.dom p hp
      have gp : g.G p = none := s1.g0.free h0
      have fp : F1 p = none := s1.fh.free hp
      have f0 : g.F0 p = none := s1.f0.free fp
      have s0 := (s1.ext (Ext.newH (o := .lst []) s1.fh hp)).wiped (σ := σ) (vs := own) rfl fun _ _ => rfl
      have nm0 : NoM (wipe σ own) (wipeC env1 own) p := fun j c hc m q => by
        by_cases z : j ∈ own
        · rw [wipeC_in z hc] at m; cases m
        · rw [wipeC_out z] at hc
          rw [wipe_out z] at q
          exact s1.nom hp j c hc m q
      refine ⟨fun i m H2 => i ≤ ds.length ∧ m = ds.length - i ∧ ∃ F2 e2 vs acc, StOk K ca g F2 H2 (wipe σ own) (wipeC e2 own) ∧ Same F1 F2 ∧ H2 p = some (.lst vs) ∧ Rps K ca F2 vs acc ∧ F2 p = none ∧ NoM (wipe σ own) (wipeC e2 own) p ∧ lcD (fun x e => match setTg t x (wipeC e own) with
          | some e1 => step e1
          | none => none) (ds.drop i) acc e2 = some fin, ⟨_, Nat.zero_le _, rfl, F1, env1, [], [], s0, Same.refl _, upd_same, .nil, fp, nm0, hfin⟩, ?_⟩
      rintro i m H2 ⟨hi, rfl, F2, e2, vs, acc, s2, f2, hp2, rv, fp2, nm2, hl2⟩
      obtain ⟨w1, w2⟩ := wk F2 H2 f2 s2.fh
      by_cases hlt : i < ds.length
      · have ed : ds[i]? = some ds[i] := List.getElem?_eq_getElem hlt
        obtain ⟨w3, w4⟩ := w1 i _ ed
        refine .inr ⟨w3, fun H2 => i + 1 ≤ ds.length ∧ ∃ F2 e2 vs acc, StOk K ca g F2 H2 (wipe σ own) (wipeC e2 own) ∧ Same F1 F2 ∧ H2 p = some (.lst vs) ∧ Rps K ca F2 vs acc ∧ F2 p = none ∧ NoM (wipe σ own) (wipeC e2 own) p ∧ lcD (fun x e => match setTg t x (wipeC e own) with
          | some e1 => step e1
          | none => none) (ds.drop (i + 1)) acc e2 = some fin, fun H' ⟨y1, y2⟩ => ⟨ds.length - (i + 1), by omega, y1, rfl, y2⟩, fun x H3 y => ?_⟩
        obtain ⟨F3, x3, r3⟩ := w4 x H3 y
        rw [List.drop_eq_getElem_cons hlt] at hl2
        have hl3 : (match (match setTg t ds[i] (wipeC e2 own) with
            | some e1 => step e1
            | none => none) with
          | some (some d, env') => if acc.length < 1000000 then lcD (fun x e => match setTg t x (wipeC e own) with
            | some e1 => step e1
            | none => none) (ds.drop (i + 1)) (acc ++ [d]) env' else none
          | some (none, env') => lcD (fun x e => match setTg t x (wipeC e own) with
            | some e1 => step e1
            | none => none) (ds.drop (i + 1)) acc env'
          | none => none) = some fin := hl2
        cases q : setTg t ds[i] (wipeC e2 own) with
        | none => rw [q] at hl3; cases hl3
        | some e4 =>
          rw [q] at hl3
          dsimp only at hl3
          have hp3 : H3 p = some (.lst vs) := x3.hh _ _ hp2
          have fp3 : F3 p = none := by
            cases z : F3 p with
            | none => rfl
            | some u =>
              rcases x3.nw p u z with z1 | z1
              · rw [fp2] at z1; cases z1
              · rw [hp2] at z1; cases z1
          have s3 := (s2.ext x3).pro hp3 fp3 h0 nm2
          refine ⟨g.pro p (.lst vs), F3, wipeC e2 own, ds[i], e4, s3, r3, q, fun σ3 s4 ag => ?_⟩
          have hlen : σ3.length = σ.length := by
            rw [s4.len, show e4.length = (wipeC e2 own).length from ?_, ← s2.len, wipe_length]
            exact setTg_length q
          have ag' : ∀ j, j ∉ own → σ3[j]? = σ[j]? := fun j hj => by
            rw [ag j fun z => hj (ht j z), wipe_out hj]
          refine ⟨wipe_eq hlen ag', ?_⟩
          cases qs : step e4 with
          | none => rw [qs] at hl3; cases hl3
          | some r =>
            obtain ⟨od, e5⟩ := r
            rw [qs] at hl3
            refine hstep (g.pro p (.lst vs)) F3 H3 σ3 e4 e5 od _ _ s4 qs (fun d' ed' v F5 H5 s5 f5 r5 => ?_) (fun ed' F5 H5 s5 f5 => ?_)
            · subst ed'
              dsimp only at hl3
              obtain ⟨s6, hp5, fp5, nm5⟩ := s5.unpro s1.g0 s1.bg h0 f0
              by_cases hz : acc.length < 1000000
              · rw [if_pos hz] at hl3
                have s7 := (s6.updO (o' := .lst (vs ++ [v])) hp5 fp5 gp nm5).wiped (σ := σ) (vs := own) hlen.symm fun j hj => (ag' j hj).symm
                have nm7 : NoM (wipe σ own) (wipeC e5 own) p := fun j c hc m q => by
                  by_cases z : j ∈ own
                  · rw [wipeC_in z hc] at m; cases m
                  · rw [wipeC_out z] at hc
                    rw [wipe_out z, ← ag' j z] at q
                    exact nm5 j c hc m q
                have ff := x3.ff.trans f5
                exact ⟨vs, hp5, by rw [rv.length]; exact lim2 hz, hlt, F5, e5, vs ++ [v], acc ++ [d'], s7, f2.trans ff, upd_same, (rv.mono ff).append (.one r5), fp5, nm7, hl3⟩
              · rw [if_neg hz] at hl3; cases hl3
            · subst ed'
              dsimp only at hl3
              obtain ⟨s6, hp5, fp5, nm5⟩ := s5.unpro s1.g0 s1.bg h0 f0
              have s7 := s6.wiped (σ := σ) (vs := own) hlen.symm fun j hj => (ag' j hj).symm
              have nm7 : NoM (wipe σ own) (wipeC e5 own) p := fun j c hc m q => by
                by_cases z : j ∈ own
                · rw [wipeC_in z hc] at m; cases m
                · rw [wipeC_out z] at hc
                  rw [wipe_out z, ← ag' j z] at q
                  exact nm5 j c hc m q
              have ff := x3.ff.trans f5
              exact ⟨hlt, F5, e5, vs, acc, s7, f2.trans ff, hp5, rv.mono ff, fp5, nm7, hl3⟩
      · have hi' : i = ds.length := by omega
        subst hi'
        rw [List.drop_length] at hl2
        have hl3 : some (acc, e2) = some fin := hl2
        injection hl3 with hl3
        subst hl3
        refine .inl ⟨w2, ?_⟩
        have lene : e2.length = σ.length := by rw [← wipeC_length own e2, ← s2.len, wipe_length]
        have sB : StOk K ca g F2 H2 σ (backC env1 e2 own) := by
          refine s2.part (by rw [backC, List.length_mapIdx, lene]) fun j c hc => ?_
          rw [backC_get] at hc
          cases z : e2[j]? with
          | none => rw [z] at hc; cases hc
          | some c2 =>
            rw [z] at hc
            by_cases zj : j ∈ own
            · obtain ⟨c1, y1, y2⟩ := plainAt_get hpl zj
              have hc' : c = c1 := by
                simp only [Option.map_some, if_pos zj, Option.some.injEq] at hc
                rw [List.getD_eq_getElem?_getD, y1] at hc
                exact hc.symm
              subst hc'
              cases c with
              | emp => exact .inl rfl
              | fz d =>
                obtain ⟨ov, z1, v, rfl, rp⟩ := s1.cel j _ y1
                exact .inr (.inr ⟨d, v, rfl, z1, rp.mono f2⟩)
              | own d => cases y2
              | brw d => cases y2
              | io d => cases y2
            · simp only [Option.map_some, if_neg zj, Option.some.injEq] at hc
              subst hc
              exact .inr (.inl ⟨by rw [wipeC_out zj]; exact z, by rw [wipe_out zj]⟩)
        refine h1 (.ref p) F2 H2 sB (f1.trans f2) ⟨p, _, rfl, hp2, .lst rv, fp2, h0, fun j c hc m q => ?_⟩
        rw [backC_get] at hc
        cases z : e2[j]? with
        | none => rw [z] at hc; cases hc
        | some c2 =>
          rw [z] at hc
          by_cases zj : j ∈ own
          · obtain ⟨c1, y1, y2⟩ := plainAt_get hpl zj
            simp only [Option.map_some, if_pos zj, Option.some.injEq] at hc
            rw [List.getD_eq_getElem?_getD, y1] at hc
            have hc' : c1 = c := hc
            subst hc'
            cases c1 with
            | emp => cases m
            | fz d => cases m
            | own d => cases y2
            | brw d => cases y2
            | io d => cases y2
          · simp only [Option.map_some, if_neg zj, Option.some.injEq] at hc
            subst hc
            exact nm2 j c2 (by rw [wipeC_out zj]; exact z) m (by rw [wipe_out zj]; exact q)
  · rw [if_neg hpl] at h1; exact h1.elim
where
  setTg_length {t : Tg} {d : D} {e e' : Ce} (h : setTg t d e = some e') : e'.length = e.length := by
    cases t with
    | name i =>
      have h' : (if i < e.length then some (e.set i (.fz d)) else none) = some e' := h
      by_cases z : i < e.length
      · rw [if_pos z] at h'; cases h'; rw [List.length_set]
      · rw [if_neg z] at h'; cases h'
    | tup is =>
      cases d with
      | tup ds =>
        obtain ⟨_, _, rfl⟩ := setTg_tup h
        have L : ∀ (l : List (Nat × D)) (e : Ce), (l.foldl (fun e p => e.set p.1 (.fz p.2)) e).length = e.length := fun l => by
          induction l with
          | nil => intro e; rfl
          | cons p l ih => intro e; rw [List.foldl_cons, ih, List.length_set]
        exact L _ _
      | _ => cases h
end
end DV


set_option maxRecDepth 100000
set_option maxHeartbeats 4000000
/-! DV15: the rules for comprehensions; a def keeps its promise; the law's call. -/
namespace DV
open PySem PySem.Spec PyProof.Rows L2

abbrev W0 : WX := fun _ _ _ _ => False
section
variable {X : Cx} {W : WX} {ca : Nat → Addr} {T : Tab} {calls : Calls} {ro : Bool} {elt tg iter cd : Expr} {scope : Scope} {own : List (Str × Nat)} {os : List Nat} {pos spos py : Pos} {it : IC} {t : Tg} {c a : EC}
abbrev BX (X : Cx) (scope : Scope) (s : Shared) (H : Hp) (C : Addr) (cl : List (Str × Addr)) (fp : List Addr) : Cx := X.blk s H scope (compEnvC scope cl C X.env) fp
theorem onlyOk_some {α : Type} {m : Option (XR α)} {r : α × Ce} (h : onlyOk m = some r) : m = some (.ok r.1 r.2) := by
  cases m with
  | none => cases h
  | some x =>
    cases x with
    | ok a e => cases h; rfl
    | ex c fs e => cases h
theorem tO_lc {σ : L2.St} {H : Hp} {Q : VK} (ht : ∀ i, i ∈ tgSl t → i ∈ os) (h : tO X.K ca T calls W (.lc os it t c) σ H Q) : tLc (tI X.K ca T calls W it) (gT X.K ca t) tYes (tE X.K ca T calls W0 c) os σ H Q := by
  refine lc_ok (step := fun e1 => match onlyOk (evE T calls c e1) with
    | some r => some (some r.1, r.2)
    | none => none) ht (fun g F H σ2 e1 e2 od Qt Qf s h h1 h2 => ?_) h
  cases q : onlyOk (evE T calls c e1) with
  | none => rw [q] at h; cases h
  | some r =>
    rw [q] at h
    cases h
    show tE X.K ca T calls W0 c σ2 H Qt
    exact ⟨g, F, e1, s, by rw [onlyOk_some q]; exact h1 r.1 rfl⟩
theorem tO_lci {σ : L2.St} {H : Hp} {Q : VK} (ht : ∀ i, i ∈ tgSl t → i ∈ os) (h : tO X.K ca T calls W (.lci os it t a c) σ H Q) : tLc (tI X.K ca T calls W it) (gT X.K ca t) (tT X.K ca T calls W0 a) (tE X.K ca T calls W0 c) os σ H Q := by
  refine lc_ok (step := fun e1 => match onlyOk (evE T calls a e1) with
    | some (.bl true, e2) => (match onlyOk (evE T calls c e2) with
      | some r => some (some r.1, r.2)
      | none => none)
    | some (.bl false, e2) => some (none, e2)
    | _ => none) ht (fun g F H σ2 e1 e2 od Qt Qf s h h1 h2 => ?_) h
  cases q : onlyOk (evE T calls a e1) with
  | none => rw [q] at h; cases h
  | some r =>
    rw [q] at h
    obtain ⟨d, e3⟩ := r
    refine ⟨g, F, e1, s, ?_⟩
    rw [onlyOk_some q]
    cases d with
    | bl b =>
      refine ⟨b, rfl, fun F' H' s1 f1 => ?_⟩
      cases b with
      | false => cases h; exact h2 rfl F' H' s1 f1
      | true =>
        dsimp only at h
        cases q2 : onlyOk (evE T calls c e3) with
        | none => rw [q2] at h; cases h
        | some r =>
          rw [q2] at h
          cases h
          exact ⟨g, F', e3, s1, by rw [onlyOk_some q2]; exact fun v F2 H2 s2 f2 r2 => h1 r.1 rfl v F2 H2 s2 (f1.trans f2) r2⟩
    | _ => cases h
theorem do_lc (hc : X.calm = true) (hN : X.N.Nodup) (hi : DI X W ca T calls tg iter it) (ok : BlkOk X.N X.env.scope scope own) (hg : ∀ s H C cl fp, DG (BX X scope s H C cl fp) ca tg t) (he : ∀ s H C cl fp, DE (BX X scope s H C cl fp) W0 ca T calls elt c)
    (ho : own.map (·.2) = os := by rfl) (ht : ∀ i, i ∈ tgSl t → i ∈ os := by decide) (hs : ∀ x, foldedSetIterable iter X.env x = pure x := by intro _; rfl) : DO X W ca T calls (.ListComp elt [⟨tg, iter, [], 0⟩] scope pos) (.lc os it t c) := by
  subst ho
  exact PE.imp (pe_lc hc hN hi ok hg (fun _ _ _ _ _ => pts_nil) he hs) fun σ H Q h => tO_lc ht h
theorem do_lci (hc : X.calm = true) (hN : X.N.Nodup) (hi : DI X W ca T calls tg iter it) (ok : BlkOk X.N X.env.scope scope own) (hg : ∀ s H C cl fp, DG (BX X scope s H C cl fp) ca tg t) (hd : ∀ s H C cl fp, DT (BX X scope s H C cl fp) W0 ca T calls cd a) (he : ∀ s H C cl fp, DE (BX X scope s H C cl fp) W0 ca T calls elt c)
    (ho : own.map (·.2) = os := by rfl) (ht : ∀ i, i ∈ tgSl t → i ∈ os := by decide) (hs : ∀ x, foldedSetIterable iter X.env x = pure x := by intro _; rfl) : DO X W ca T calls (.ListComp elt [⟨tg, iter, [cd], 0⟩] scope pos) (.lci os it t a c) := by
  subst ho
  exact PE.imp (pe_lc hc hN hi ok hg (fun s H C cl fp => pts_one (hd s H C cl fp)) he hs) fun σ H Q h => tO_lci ht h
/-- name = [..] on one line -/
theorem ds_setLc {i : Nat} {y : Str} (hc : X.calm = true) (hN : X.N.Nodup) (hi : DI X W ca T calls tg iter it) (ok : BlkOk X.N X.env.scope scope own) (hg : ∀ s H C cl fp, DG (BX X scope s H C cl fp) ca tg t) (he : ∀ s H C cl fp, DE (BX X scope s H C cl fp) W0 ca T calls elt c)
    (ho : own.map (·.2) = os := by rfl) (ht : ∀ i, i ∈ tgSl t → i ∈ os := by decide) (hy : X.N[i]? = some y := by rfl) (hyl : X.env.scope.names.lookup y = some .local := by rfl)
    (hsw : swapsWith (.ListComp elt [⟨tg, iter, [], 0⟩] scope pos) (some (.Name y py)) spos.line X.env = pure true := by exact sw_true rfl rfl rfl rfl) (hs : ∀ x, foldedSetIterable iter X.env x = pure x := by intro _; rfl) :
    DS X W ca T calls ro (.Assign [.Name y py] (.ListComp elt [⟨tg, iter, [], 0⟩] scope pos) spos) (.setO i (.lc os it t c)) := by
  subst ho
  refine PS.imp (ps_setLc (g := gT X.K ca t) (tt := tYes) (te := tE X.K ca T calls W0 c) hc hN hy hyl hsw hi ok hg (fun _ _ _ _ _ => pts_nil) he hs) fun D σ H ⟨g, F, env, s, k⟩ => ?_
  exact tO_lc ht ⟨g, F, env, s, Post.mono (fun d e1 h1 v F' H' s1 f1 r1 => by
    obtain ⟨e2, h2, h3⟩ := endOk_nxO h1
    obtain ⟨hl, rfl⟩ := setD_some h2
    exact h3 _ F' H' (s1.setOwn r1 hl) f1) (endOk_bind k)⟩
theorem ds_setLci {i : Nat} {y : Str} (hc : X.calm = true) (hN : X.N.Nodup) (hi : DI X W ca T calls tg iter it) (ok : BlkOk X.N X.env.scope scope own) (hg : ∀ s H C cl fp, DG (BX X scope s H C cl fp) ca tg t) (hd : ∀ s H C cl fp, DT (BX X scope s H C cl fp) W0 ca T calls cd a) (he : ∀ s H C cl fp, DE (BX X scope s H C cl fp) W0 ca T calls elt c)
    (ho : own.map (·.2) = os := by rfl) (ht : ∀ i, i ∈ tgSl t → i ∈ os := by decide) (hy : X.N[i]? = some y := by rfl) (hyl : X.env.scope.names.lookup y = some .local := by rfl)
    (hsw : swapsWith (.ListComp elt [⟨tg, iter, [cd], 0⟩] scope pos) (some (.Name y py)) spos.line X.env = pure true := by exact sw_true rfl rfl rfl rfl) (hs : ∀ x, foldedSetIterable iter X.env x = pure x := by intro _; rfl) :
    DS X W ca T calls ro (.Assign [.Name y py] (.ListComp elt [⟨tg, iter, [cd], 0⟩] scope pos) spos) (.setO i (.lci os it t a c)) := by
  subst ho
  refine PS.imp (ps_setLc (g := gT X.K ca t) (tt := tT X.K ca T calls W0 a) (te := tE X.K ca T calls W0 c) hc hN hy hyl hsw hi ok hg (fun s H C cl fp => pts_one (hd s H C cl fp)) he hs) fun D σ H ⟨g, F, env, s, k⟩ => ?_
  exact tO_lci ht ⟨g, F, env, s, Post.mono (fun d e1 h1 v F' H' s1 f1 r1 => by
    obtain ⟨e2, h2, h3⟩ := endOk_nxO h1
    obtain ⟨hl, rfl⟩ := setD_some h2
    exact h3 _ F' H' (s1.setOwn r1 hl) f1) (endOk_bind k)⟩
end

/-! ### a def by its body -/
section
variable {K : PySem.W.Frag} {ca : Nat → Addr} {T : Tab} {calls : Calls} {F F' H H' : Hp}
theorem ioAd_mem {i : Nat} {a : Addr} : ∀ {ms : List Md} {vs : List V} {i : Nat}, ms[i]? = some .io → vs[i]? = some (.ref a) → a ∈ ioAd ms vs
  | [], _, i, h, _ => by simp at h
  | _ :: _, [], i, _, h => by simp at h
  | m :: ms, v :: vs, 0, h, e => by
    simp at h e
    subst h e
    exact List.mem_cons_self
  | m :: ms, v :: vs, i + 1, h, e => by
    have ih := ioAd_mem (i := i) (ms := ms) (vs := vs) (by simpa using h) (by simpa using e)
    cases m with
    | fz => exact ih
    | brw => exact ih
    | io =>
      cases v with
      | ref b => exact List.mem_cons_of_mem _ ih
      | _ => exact ih
theorem ioAd_inj {a : Addr} : ∀ {ms : List Md} {vs : List V} {i j : Nat}, (ioAd ms vs).Nodup → ms[i]? = some .io → ms[j]? = some .io → vs[i]? = some (.ref a) → vs[j]? = some (.ref a) → i = j
  | [], _, i, _, _, h, _, _, _ => by simp at h
  | _ :: _, [], i, _, _, _, _, h, _ => by simp at h
  | m :: ms, v :: vs, i, j, n, h1, h2, e1, e2 => by
    have tl : (ioAd ms vs).Nodup := by
      cases m with
      | fz => exact n
      | brw => exact n
      | io =>
        cases v with
        | ref b => exact (List.nodup_cons.mp n).2
        | _ => exact n
    cases i with
    | zero =>
      cases j with
      | zero => rfl
      | succ j =>
        simp at h1 e1
        subst h1 e1
        exact absurd (ioAd_mem (i := j) (by simpa using h2) (by simpa using e2)) (List.nodup_cons.mp (show (a :: ioAd ms vs).Nodup from n)).1
    | succ i =>
      cases j with
      | zero =>
        simp at h2 e2
        subst h2 e2
        exact absurd (ioAd_mem (i := i) (by simpa using h1) (by simpa using e1)) (List.nodup_cons.mp (show (a :: ioAd ms vs).Nodup from n)).1
      | succ j => exact congrArg Nat.succ (ioAd_inj (i := i) (j := j) tl (by simpa using h1) (by simpa using h2) (by simpa using e1) (by simpa using e2))
theorem ioAd_back {a : Addr} : ∀ {ms : List Md} {vs : List V}, a ∈ ioAd ms vs → ∃ i : Nat, ms[i]? = some Md.io ∧ vs[i]? = some (V.ref a)
  | [], _, h => by cases h
  | .fz :: _, [], h => by cases h
  | .brw :: _, [], h => by cases h
  | .io :: _, [], h => by cases h
  | .fz :: ms, v :: vs, h => by
    obtain ⟨i, h1, h2⟩ := ioAd_back (ms := ms) (vs := vs) h
    exact ⟨i + 1, by simpa using h1, by simpa using h2⟩
  | .brw :: ms, v :: vs, h => by
    obtain ⟨i, h1, h2⟩ := ioAd_back (ms := ms) (vs := vs) h
    exact ⟨i + 1, by simpa using h1, by simpa using h2⟩
  | .io :: ms, v :: vs, h => by
    have go : a ∈ ioAd ms vs → ∃ i : Nat, (Md.io :: ms)[i]? = some Md.io ∧ (v :: vs)[i]? = some (V.ref a) := fun h => by
      obtain ⟨i, h1, h2⟩ := ioAd_back (ms := ms) (vs := vs) h
      exact ⟨i + 1, by simpa using h1, by simpa using h2⟩
    cases v with
    | ref b =>
      rcases List.mem_cons.mp (show a ∈ b :: ioAd ms vs from h) with z | z
      · subst z; exact ⟨0, rfl, rfl⟩
      · exact go z
    | _ => exact go h
theorem ArgsR.get {ios : List Addr} : ∀ {ms : List Md} {vs : List V} {ds : List D} {i : Nat} {m : Md}, ArgsR K ca F H ios ms vs ds → ms[i]? = some m → ∃ v d, vs[i]? = some v ∧ ds[i]? = some d ∧ ArgR K ca F H ios m v d
  | _, _, _, i, _, .nil, h => by simp at h
  | _, _, _, 0, _, .cons a t, h => by simp at h; subst h; exact ⟨_, _, rfl, rfl, a⟩
  | _, _, _, i + 1, _, .cons a t, h => by
    obtain ⟨v, d, h1, h2, h3⟩ := ArgsR.get (i := i) t (by simpa using h)
    exact ⟨v, d, by simpa using h1, by simpa using h2, h3⟩
theorem ArgsR.len {ios : List Addr} : ∀ {ms : List Md} {vs : List V} {ds : List D}, ArgsR K ca F H ios ms vs ds → vs.length = ms.length ∧ ds.length = ms.length
  | _, _, _, .nil => ⟨rfl, rfl⟩
  | _, _, _, .cons a t => by
    obtain ⟨h1, h2⟩ := t.len
    exact ⟨by rw [List.length_cons, List.length_cons, h1], by rw [List.length_cons, List.length_cons, h2]⟩
/-- the ghost of a def's run -/
def gh0 (F H : Hp) (ms : List Md) (vs : List V) : Gh where
  F0 := F
  H0 := H
  G := fun a => if a ∈ ioAd ms vs then none else H a
  B := fun a => if a ∈ ioAd ms vs then none else H a
  io := fun i => match ms[i]?, vs[i]? with
    | some .io, some (.ref a) => some a
    | _, _ => none
theorem start_get {N : List Str} {vs : List V} {i : Nat} {v : V} (h : vs[i]? = some v) : (start N vs)[i]? = some (some v) := by
  unfold L2.start
  rw [List.getElem?_append_left (by rw [List.length_map]; exact (List.getElem?_eq_some_iff.mp h).1), List.getElem?_map, h]
  rfl
theorem stOk_start {N : List Str} {c : FnC} {vs : List V} {ds : List D} (e : Same F H) (a : ArgsR K ca F H (ioAd c.ms vs) c.ms vs ds) (nd : (ioAd c.ms vs).Nodup) (hn : N.length = c.n) (hl : c.ms.length ≤ c.n) : StOk K ca (gh0 F H c.ms vs) F H (start N vs) (start0 c ds) := by
  obtain ⟨l1, l2⟩ := a.len
  have G1 : Same (gh0 F H c.ms vs).G H := fun b u h => by
    have h' : (if b ∈ ioAd c.ms vs then none else H b) = some u := h
    by_cases z : b ∈ ioAd c.ms vs
    · rw [if_pos z] at h'; cases h'
    · rw [if_neg z] at h'; exact h'
  have cell : ∀ (i : Nat) (cl : Cell), (start0 c ds)[i]? = some cl → cl = .emp ∨ ∃ m v d, c.ms[i]? = some m ∧ vs[i]? = some v ∧ ds[i]? = some d ∧ cl = mdCell m d ∧ ArgR K ca F H (ioAd c.ms vs) m v d := fun i cl h => by
    unfold start0 at h
    by_cases z : i < c.ms.length
    · rw [List.getElem?_append_left (by rw [List.length_map, List.length_zip]; omega), List.getElem?_map] at h
      have em := List.getElem?_eq_getElem z
      obtain ⟨v, d, h1, h2, h3⟩ := a.get em
      have ez : (c.ms.zip ds)[i]? = some (c.ms[i], d) := List.getElem?_zip_eq_some.mpr ⟨em, h2⟩
      rw [ez] at h
      cases h
      exact .inr ⟨_, v, d, em, h1, h2, rfl, h3⟩
    · rw [List.getElem?_append_right (by rw [List.length_map, List.length_zip]; omega), List.getElem?_replicate] at h
      split at h
      · cases h; exact .inl rfl
      · cases h
  refine ⟨e, G1, G1, Same.refl _, Same.refl _, fun b u h => .inl h, fun b h => h, ?_, fun i cl h => ?_, fun i j a c1 c2 h1 m1 h2 m2 e1 e2 => ?_⟩
  · unfold L2.start start0
    rw [List.length_append, List.length_append, List.length_map, List.length_map, List.length_zip, List.length_replicate, List.length_replicate, l1, l2, hn]
    omega
  · have hi : i < (start N vs).length := by
      have := (List.getElem?_eq_some_iff.mp h).1
      unfold L2.start
      unfold start0 at this
      rw [List.length_append, List.length_map, List.length_zip, List.length_replicate] at this
      rw [List.length_append, List.length_map, List.length_replicate]
      omega
    rcases cell i cl h with z | ⟨m, v, d, h1, h2, h3, rfl, h4⟩
    · subst z; exact ⟨_, List.getElem?_eq_getElem hi, trivial⟩
    · refine ⟨some v, start_get h2, ?_⟩
      cases m with
      | fz => exact ⟨v, rfl, h4⟩
      | brw =>
        refine ⟨v, rfl, ?_⟩
        rcases h4 with z | ⟨b, o, e1, z1, z2, z3⟩
        · exact .inl z
        · exact .inr ⟨b, o, e1, (if_neg z3).trans z1, z2⟩
      | io =>
        obtain ⟨b, o, rfl, z1, z2, z3⟩ := h4
        refine ⟨b, o, ?_, rfl, z1, z2, z3, if_pos (ioAd_mem (i := i) h1 h2)⟩
        show (match c.ms[i]?, vs[i]? with
          | some .io, some (.ref a) => some a
          | _, _ => none) = some b
        rw [h1, h2]
  · have get : ∀ {k : Nat} {cl : Cell}, (start0 c ds)[k]? = some cl → cl.mine = true → (start N vs)[k]? = some (some (.ref a)) → c.ms[k]? = some .io ∧ vs[k]? = some (.ref a) := fun {k cl} h m e => by
      rcases cell k cl h with z | ⟨md, v, d, h1, h2, h3, rfl, h4⟩
      · subst z; cases m
      · rw [start_get h2] at e
        cases e
        cases md with
        | fz => cases m
        | brw => cases m
        | io => exact ⟨h1, h2⟩
    obtain ⟨x1, x2⟩ := get h1 m1 e1
    obtain ⟨x3, x4⟩ := get h2 m2 e2
    exact ioAd_inj nd x1 x3 x2 x4
/-- what was handed in to be changed, at the end -/
theorem outs_ok : ∀ {ms : List Md} {env : Ce} {os : List D} {vs : List V}, (∀ (i : Nat) (d : D), ms[i]? = some .io → env[i]? = some (.io d) → ∃ a o, vs[i]? = some (.ref a) ∧ H' a = some o ∧ Ob K ca F' o d ∧ F' a = none) → vs.length = ms.length → outs ms env = some os → OutsR K ca F' H' ms vs os
  | [], env, os, vs, _, _, h => by
    cases h
    exact rfl
  | .io :: ms, [], os, vs, _, _, h => by cases h
  | .fz :: ms, [], os, vs, _, _, h => by cases h
  | .brw :: ms, [], os, vs, _, _, h => by cases h
  | .fz :: ms, c :: env, os, [], _, hl, h => by cases hl
  | .brw :: ms, c :: env, os, [], _, hl, h => by cases hl
  | .io :: ms, c :: env, os, [], _, hl, h => by cases hl
  | .fz :: ms, c :: env, os, v :: vs, hh, hl, h => outs_ok (ms := ms) (env := env) (vs := vs) (fun i d h1 h2 => hh (i + 1) d (by simpa using h1) (by simpa using h2)) (by simpa using hl) h
  | .brw :: ms, c :: env, os, v :: vs, hh, hl, h => outs_ok (ms := ms) (env := env) (vs := vs) (fun i d h1 h2 => hh (i + 1) d (by simpa using h1) (by simpa using h2)) (by simpa using hl) h
  | .io :: ms, c :: env, os, v :: vs, hh, hl, h => by
    cases c with
    | io d =>
      have h' : (match outs ms env with
        | some os => some (d :: os)
        | none => none) = some os := h
      cases q : outs ms env with
      | none => rw [q] at h'; cases h'
      | some os' =>
        rw [q] at h'
        cases h'
        obtain ⟨a, o, e1, z1, z2, z3⟩ := hh 0 d rfl rfl
        cases e1
        exact ⟨⟨a, o, rfl, z1, z2, z3⟩, outs_ok (ms := ms) (env := env) (vs := vs) (fun i d h1 h2 => hh (i + 1) d (by simpa using h1) (by simpa using h2)) (by simpa using hl) q⟩
    | _ => cases h
theorem back_end {ms : List Md} {vs : List V} {σ' : L2.St} {env : Ce} (s : StOk K ca (gh0 F H ms vs) F' H' σ' env) : Back F H F' H' (ioAd ms vs) :=
  ⟨s.f0, s.fh, s.fr, fun b o h z => s.gh b o ((if_neg z).trans h), s.dom⟩
theorem outs_end {ms : List Md} {vs : List V} {σ' : L2.St} {env : Ce} {os : List D} (s : StOk K ca (gh0 F H ms vs) F' H' σ' env) (hl : vs.length = ms.length) (h : outs ms env = some os) : OutsR K ca F' H' ms vs os :=
  outs_ok (fun i d h1 h2 => by
    obtain ⟨ov, q1, a, o, e0, e1, z1, z2, z3, z4⟩ := s.cel i _ h2
    have e0' : (match ms[i]?, vs[i]? with
      | some .io, some (.ref a) => some a
      | _, _ => none) = some a := e0
    rw [h1] at e0'
    cases q : vs[i]? with
    | none => rw [q] at e0'; cases e0'
    | some v =>
      rw [q] at e0'
      cases v with
      | ref b => cases e0'; exact ⟨a, o, rfl, z1, z2, z3⟩
      | _ => cases e0') hl h
end

section
variable {P : Program} {w : World} {K : PySem.W.Frag} {mg : Str → Option Value} {base : Heap} {ca : Nat → Addr} {T : Tab} {calls calls' : Calls} {x qual : Str} {params : Arguments} {body : List Stmt} {scope : Scope} {fa : Addr} {fd : FuncData} {N ps : List Str} {k f : Nat} {c : FnC}
/-- the context of a body -/
abbrev CB (P : Program) (w : World) (K : PySem.W.Frag) (mg : Str → Option Value) (base : Heap) (N : List Str) (qual : Str) (scope : Scope) (fa : Addr) (cdv : Value) (A : Around) (outer : List PySem.Env) (s : Shared) (H : Hp) (E : XK) : Cx := cxOf (L2.CX P w) P w K mg base N qual scope fa cdv A outer s H E
/-- THE RULE for a def: its body does what its code does -/
theorem fnG_of (D : FunD K x qual params body scope [] [] fa fd) (S : FnScope N ps scope) (hT : T.code f = some c) (hps : ps.length = c.ms.length) (hn : N.length = c.n) (hrun : ∀ ds, calls' f ds = runC T calls c ds)
    (hbody : ∀ (cdv : Value) (A : Around) (outer : List PySem.Env) (s : Shared) (H : Hp) (E : XK), Go (CB P w K mg base N qual scope fa cdv A outer s H E) ca T calls (fun cls d _ H => E cls d H) k →
      PassesOwn (model P w) (CB P w K mg base N qual scope fa cdv A outer s H E).A (CB P w K mg base N qual scope fa cdv A outer s H E).env (CB P w K mg base N qual scope fa cdv A outer s H E).xe →
      DSs (CB P w K mg base N qual scope fa cdv A outer s H E) (fun cls d _ H => E cls d H) ca T calls c.ro body c.body) : FnG P w K mg base (k + 2) fa fd ps (spF K ca T calls' f) := by
  obtain ⟨oc, od, dV, kV, doc, pm, an, cdv, ct, osl, rfl, lk, hcd, _⟩ := D.ex
  refine ⟨fun vs H Q E h => ?_, fun A outer s H args us vs Q E hr hgd e0 hb r hsp => ?_⟩
  · obtain ⟨F, c', ds, r, h1, h2, h3, _⟩ := h
    rw [hT] at h1
    cases h1
    rw [hps]
    exact h3.len.1
  · obtain ⟨F, c', ds, res, h1, h2, h3, h4, h5, h6⟩ := hsp
    rw [hT] at h1
    cases h1
    have hl : vs.length = ps.length := by rw [hps]; exact h3.len.1
    have KX : K.In s.heap := e0.mod.kin.keeps fun b o e => (e0.bs b o e).1
    have lim : s.heap.NoLimit := e0.mod.nolimit.keeps fun b o e => (e0.bs b o e).1
    have kinds : ∀ y ∈ ps.zip us, scope.names.lookup y.1 = some .local ∨ (scope.names.lookup y.1 = some .cell ∧ ((cellsFrom (s.heap.objs.size + 1) scope.names []).lookup y.1).isSome = true) := fun y hy => by
      rcases S.par y.1 (List.of_mem_zip hy).1 with q | q
      · exact .inl q
      · exact .inr ⟨q, PySem.W.cellsFrom_some _ _ _ (.inl q)⟩
    refine codeAny_call_function hr.depth (KX _ _ lk) rfl S.co S.gen rfl (PySem.W.codeRec_of KX hcd) (hb _ _ _ _ ?_)
    refine wpAny_newFunctionEnv_cells S.kind kinds fun env he s1 ic => ?_
    subst he
    refine ⟨lim.keeps ic.toInCall.keep, codeAny_func ?_⟩
    have I : Inv (CB P w K mg base N qual scope fa cdv A outer s H E) [] (start N vs) H s1 := inv_start S hr.hd e0 hl r ic
    have tk : Takes (CB P w K mg base N qual scope fa cdv A outer s H E) (fun cls d _ H => E cls d H) := takes_of rfl rfl rfl (E₁ := fun e' s'' => L2.CX P w outer H s E e' s'') rfl
    have po : PassesOwn (model P w) (CB P w K mg base N qual scope fa cdv A outer s H E).A (CB P w K mg base N qual scope fa cdv A outer s H E).env (CB P w K mg base N qual scope fa cdv A outer s H E).xe := passes_of (X := CB P w K mg base N qual scope fa cdv A outer s H E) (K := fun e s'' => L2.CX P w outer H s E e s'') (E₁ := fun e' s'' => L2.CX P w outer H s E e' s'') rfl
    have go : Go (CB P w K mg base N qual scope fa cdv A outer s H E) ca T calls (fun cls d _ H => E cls d H) k := ⟨hr.deeper _, hgd, tk⟩
    have B := hbody cdv A outer s H E go po
    have h5' : (if ds.length = c.ms.length ∧ c.ms.length ≤ c.n then endC c (evSs T calls c.body (start0 c ds)) else none) = some res := by
      rw [← h5, hrun]
      rfl
    by_cases hz : ds.length = c.ms.length ∧ c.ms.length ≤ c.n
    · rw [if_pos hz] at h5'
      have st := stOk_start (N := N) h2 h3 h4 hn hz.2
      have fin : ∀ {d os}, retO' c.ms d os = some res → ∀ {σ' F' H' v}, StOk K ca (gh0 F H c.ms vs) F' H' σ' os → RetR K ca H F' H' c.ro v d → Q v H' := fun {d env} h {σ' F' H' v} s' rr => by
        unfold retO' at h
        cases q : outs c.ms env with
        | none => rw [q] at h; cases h
        | some os =>
          rw [q] at h
          cases h
          exact h6 v F' H' (back_end s') (outs_end s' h3.len.1 q) rr
      have body : EndOk K ca (fun cls d _ H => E cls d H) c.ro (gh0 F H c.ms vs) F { nx := fun _ H' => Q .non H', rt := Q } (evSs T calls c.body (start0 c ds)) := by
        cases q : evSs T calls c.body (start0 c ds) with
        | none => rw [q] at h5'; cases h5'
        | some fl =>
          rw [q] at h5'
          cases fl with
          | nx env =>
            intro σ' F' H' s' f'
            have h7 : (if c.ro = false then retO' c.ms .non env else none) = some res := h5'
            by_cases hro : c.ro = false
            · rw [if_pos hro] at h7
              exact fin h7 s' (by rw [hro]; exact Rp.non)
            · rw [if_neg hro] at h7; cases h7
          | rt d env =>
            intro v σ' F' H' s' f' rr
            refine fin h5' s' ?_
            cases hro : c.ro with
            | false => rw [hro] at rr; exact rr
            | true =>
              rw [hro] at rr
              obtain ⟨a, o, e1, z1, z2, z3, z4, _⟩ := rr
              exact ⟨a, o, e1, z4, z1, z2, z3⟩
          | ex y fs env =>
            intro σ' F' H' dd s' xd
            cases h5'
            exact h6 F' H' dd (back_end s') xd
          | bk env => cases h5'
          | ct env => cases h5'
      refine wpAny_mono (B.run [] s1 (start N vs) H { nx := fun _ H' => Q .non H', rt := Q } I ⟨gh0 F H c.ms vs, F, start0 c ds, st, body⟩) (fun fl s' hs => ?_) fun e s' hs => hs
      have out : ∀ {σ' : L2.St} {H' : Hp} {v : V} {u : Value}, Inv (CB P w K mg base N qual scope fa cdv A outer s H E) [] σ' H' s' → RelV v u → Q v H' → CE outer P w H s Q u s' := fun {σ' H' v u} J rv q => ⟨v, H', J.os, J.bare, J.base, J.hok, rv, q⟩
      cases fl with
      | ret u => obtain ⟨v, σ', H', J, rv, q⟩ := hs; exact out J rv q
      | next => obtain ⟨σ', H', J, q⟩ := hs; exact out (v := .non) J rfl q
      | brk => obtain ⟨_, _, _, q⟩ := hs; exact q.elim
      | cont => obtain ⟨_, _, _, q⟩ := hs; exact q.elim
    · rw [if_neg hz] at h5'; cases h5'
end
end DV


set_option maxRecDepth 100000
set_option maxHeartbeats 4000000
/-! DV16: the law's own call, without guards. -/
namespace DV
open PySem PySem.Spec PyProof.Rows L2

section
variable {P : Program} {w : World} {K : PySem.W.Frag} {mg mb : Str → Option Value} {k : Nat} {fa a : Addr} {fd : FuncData} {x : Str} {sp : Sp} {s : Shared} {us : List Value} {ns : List Int}
/-- only the script may stand in H -/
structure Scr (K : PySem.W.Frag) (H : Hp) (a : Addr) (ns : List Int) (h : Heap) (P : Program) (w : World) : Prop where
  on : Only H
  sq : SqL K H a (ns.map V.int)
  ok : HOk P w H h
  at_ : ∀ b, H b ≠ none → b = a
  lk : H a ≠ none → K.lookup a = none
theorem scr_of (KX : K.In s.heap) (ha : s.heap.get? a = some { cls := .type "list", data := .seq us.toArray }) (hi : IntsAre us ns) (hl : ns.length ≤ sizeLine) : ∃ H, Scr K H a ns s.heap P w := by
  have rv := vals_ints hi
  have hlen := hi.length
  cases hk : K.lookup a with
  | some o =>
    have e := KX a o hk
    rw [ha] at e
    cases e
    exact ⟨fun _ => none, fun _ => .inl rfl, .inr ⟨_, us.toArray, _, hk, rfl, rfl, rfl, by rw [List.size_toArray, hlen]; exact hl, by simpa using rv⟩, fun b u z => (by cases (show (none : Option HO) = some u from z)), fun b z => absurd rfl z, fun z => absurd rfl z⟩
  | none =>
    refine ⟨fun b => if b = a then some (.frz { cls := .type "list", data := .seq us.toArray } (.lst (ns.map V.int))) else none, fun b => ?_, .inl (.inr ⟨_, if_pos rfl⟩), fun b u z => ?_, fun b z => ?_, fun _ => hk⟩
    · by_cases hb : b = a
      · exact .inr ⟨_, _, if_pos hb⟩
      · exact .inl (if_neg hb)
    · by_cases hb : b = a
      · subst hb
        rw [if_pos rfl] at z
        cases z
        exact ⟨ha, by rw [List.length_map]; exact hl, us, 0, rv, ha⟩
      · rw [if_neg hb] at z; cases z
    · by_cases hb : b = a
      · exact hb
      · exact absurd (if_neg hb) z
theorem law_callG (KX : K.In s.heap) (hns : s.heap.Ns mainGlobals mg) (hb : s.heap.Ns builtinsNs mb) (hbb : ∀ x : Str, x ≠ "__name__" → mb x = bootBuiltins x) (hlim : s.heap.NoLimit) (hg : s.gens = #[])
    (ha : s.heap.get? a = some { cls := .type "list", data := .seq us.toArray }) (hi : IntsAre us ns) (hl : ns.length ≤ sizeLine) (hr : Room k callerA)
    (F : ∀ base : Heap, K.In base → base.Ns mainGlobals mg → FnG P w K mg base k fa fd [x] sp) (hbind : ∀ (s : Shared) (u : Value), BindsTo s fd ⟨[u], []⟩ [(x, u)])
    (hsp : ∀ H : Hp, SqL K H a (ns.map V.int) → sp [.ref a] H (fun v _ => v = .bl true) fun _ _ _ => False) :
    codeAny (model P w) callerA (.call (.ref fa) ⟨[.ref a], []⟩) (fun r s' => r = .ok (.ret (.bool true)) ∧ OldK s.heap s'.heap ∧ s'.os = s.os ∧ AllBare s'.gens) s := by
  obtain ⟨H, Z⟩ := scr_of (P := P) (w := w) KX ha hi hl
  have up : ∀ {b : Addr} {o : Obj}, s.heap.get? b = some o → H b = none → (hidT s.heap H).get? b = some o := fun e n => hidT_get e n
  have noD : ∀ {b : Addr} {o : Obj} {es : Array DictEntry} {ep : Nat}, s.heap.get? b = some o → o.data = .dict es ep → H b = none := fun {b o es ep} e d => by
    cases q : H b with
    | none => rfl
    | some u =>
      have e' := Z.at_ b (by rw [q]; simp)
      subst e'
      rw [ha] at e
      cases e
      cases (show Data.seq us.toArray _ = Data.dict es ep from d)
  have nsU : ∀ {b : Addr} {m : Str → Option Value}, s.heap.Ns b m → (hidT s.heap H).Ns b m := fun ⟨o, es, ep, e, d, r⟩ => ⟨o, es, ep, up e (noD e d), d, r⟩
  have KU : K.In (hidT s.heap H) := fun b o e => up (KX b o e) (by
    cases q : H b with
    | none => rfl
    | some u =>
      have e' := Z.at_ b (by rw [q]; simp)
      subst e'
      rw [Z.lk (by rw [q]; simp)] at e
      cases e)
  have M : Mod K mg (hidT s.heap H) := ⟨KU, nsU hns, ⟨mb, nsU hb, hbb⟩, let ⟨mc, h1, h2⟩ := hlim; ⟨mc, nsU h1, h2⟩⟩
  have e0 : Env0 P w K mg (hidT s.heap H) callerA [] s H := ⟨rfl, M, fun b o e => of_hidT e, Nat.le_of_eq (hidT_size _ _), trivial, fun b hb => absurd (show b ∈ ([] : List Addr) from hb) (by simp), Z.ok, .of_eq hg⟩
  refine codeAny_mono ((F _ KU (nsU hns)).go callerA [] s H ⟨[.ref a], []⟩ [.ref a] [.ref a] _ _ hr rfl e0 (hbind s (.ref a)) (.cons rfl .nil) (hsp H Z.sq)) fun r s' h => ?_
  cases r with
  | error e =>
    obtain ⟨_, _, _, _, _, _, _, _, _, _, _, _, z⟩ := h
    exact z.elim
  | ok fl =>
    cases fl with
    | ret u =>
      obtain ⟨v, H', os, bare, un, ok', r', q⟩ := h
      have q' : v = .bl true := q
      subst q'
      obtain rfl : u = Value.bool true := r'
      refine ⟨rfl, OldK.of_keep fun b o e => ?_, os, bare⟩
      cases q : H b with
      | none => exact un.keep b o e q (by intro z; exact absurd (show b ∈ ([] : List Addr) from z) (by simp)) (by simp)
      | some u =>
        rcases Z.on b with z | ⟨ob, xs, z⟩
        · rw [q] at z; cases z
        · obtain ⟨e1, _⟩ := Z.ok b _ z
          obtain ⟨e2, _⟩ := ok' b _ (un.frzs b ob _ z)
          rw [e] at e1
          cases e1
          exact e2
    | _ => exact False.elim h
end
/-- a law whose promise is that of its code -/
theorem walk_G {l : PySem.W.OpenLaw} {n k : Nat} {q : Program} {loose : List Str} {XP : (Str → Option Value) → Heap → Prop} {YP : World → Heap → Prop} {d : DefRec} {x : Str} {ca : (Str → Option Value) → Heap → Nat → Addr}
    (hn : l.most = some n) (hn2 : n ≤ sizeLine) (hdf : d.params.defaults = []) (hr : Room k callerA)
    (F : ∀ (w : World) (mg : Str → Option Value) (fa : Addr) (h : Heap), YP w h → h.Ns mainGlobals mg → mg d.name = some (.ref fa) →
      ∃ (K : PySem.W.Frag) (fd : FuncData) (sp : Sp), K.In h ∧ (∀ (s : Shared) (u : Value), BindsTo s fd ⟨[u], []⟩ [(x, u)]) ∧
        (∀ (H : Hp) (a : Addr) (ns : List Int), ns.length ≤ n → SqL K H a (ns.map V.int) → sp [.ref a] H (fun v _ => v = .bl true) fun _ _ _ => False) ∧
        ∀ base : Heap, K.In base → base.Ns mainGlobals mg → FnG l.prog w K mg base k fa fd [x] sp) :
    PySem.W.WalkO q loose XP YP l.row.toRowW d [] (fun f vs => PySem.call f vs) := by
  refine Att.attach_call hn hdf fun w s₀ s₁ mg mb fa o pm cd doc a vs ns G Y ho hd hcd hmg hobj hints hlen hg => ?_
  obtain ⟨K, fd, sp, KX, hb, hsp, hF⟩ := F w mg fa _ Y G.T.g hmg
  exact law_callG KX G.T.g G.T.b G.T.builtins G.T.nolimit hg hobj hints (Nat.le_trans hlen hn2) hr hF hb fun H hS => hsp H a ns hlen hS
/-- the law's promise from its code -/
theorem sp_law {K : PySem.W.Frag} {ca : Nat → Addr} {T : Tab} {calls : Calls} {f : Nat} {c : FnC} {H : Hp} {a : Addr} {ns : List Int} (hc : T.code f = some c) (hm : c.ms = [.fz]) (hro : c.ro = false) (hS : SqL K H a (ns.map V.int)) (h : calls f [.scr ns] = some (.ret (.bl true) [])) :
    spF K ca T calls f [.ref a] H (fun v _ => v = .bl true) fun _ _ _ => False := by
  have e : ioAd c.ms [V.ref a] = [] := by rw [hm]; rfl
  refine ⟨H, c, [.scr ns], _, hc, Same.refl _, ?_, by rw [e]; exact List.nodup_nil, h, ?_⟩
  · rw [hm]
    exact .cons (Rp.scr hS) .nil
  · intro v F' H' b o r
    rw [hro] at r
    cases (show Rp K ca F' v (.bl true) from r)
    rfl
end DV


set_option maxRecDepth 100000
set_option maxHeartbeats 4000000
/-! DV17: short rules for printed derivations; the program's frame; a hook with free looks. -/
namespace DV
open PySem PySem.Spec PyProof.Rows L2

/-- no global of the text hides these -/
structure BI (mg : Str → Option Value) : Prop where
  len : mg "len" = none
  int : mg "int" = none
  abs : mg "abs" = none
  sum : mg "sum" = none
  tuple : mg "tuple" = none
  list : mg "list" = none
  repr : mg "repr" = none
  range : mg "range" = none
  zip : mg "zip" = none
  enum : mg "enumerate" = none
/-- all that a body's derivation leans on -/
structure Bd (X : Cx) (ca : Nat → Addr) (T : Tab) (calls : Calls) (W : WX) (k : Nat) : Prop where
  go : Go X ca T calls W k
  nd : X.N.Nodup
  calm : X.calm = true
  bi : BI X.mg
  attr : AttrOk X.K ca T
section
variable {X : Cx} {W : WX} {ca : Nat → Addr} {T : Tab} {calls : Calls} {k : Nat} {ro : Bool} {a b c e : Expr} {es : List Expr} {pos p : Pos} {ac bc cc : A1} {as : ACs}
theorem Bd.blk (B : Bd X ca T calls W k) {scope : Scope} (s : Shared) (H : Hp) (C : Addr) (cl : List (Str × Addr)) (fp : List Addr) : Bd (BX X scope s H C cl fp) ca T calls W0 k :=
  ⟨⟨B.go.room, B.go.grd, takes0⟩, B.nd, B.calm, B.bi, B.attr⟩
theorem Bd.hu (B : Bd X ca T calls W k) : X.A.units + 64 < cLine := B.go.room.units
theorem Bd.hu1 (B : Bd X ca T calls W k) : X.A.units + 1 < cLine := Nat.lt_of_le_of_lt (Nat.add_le_add_left (by decide) _) B.hu
/-! comparisons -/
theorem t_eq (B : Bd X ca T calls W k) (ha : DA X W ca T calls a ac) (hb : DA X W ca T calls b bc) : DT X W ca T calls (.Compare a [.Eq] [b] pos) (.op .eq (ac.cons (bc.cons .nil))) := dt_cmp (op_eqA B.hu) s_eq ha hb (nomark _)
theorem e_eq (B : Bd X ca T calls W k) (ha : DA X W ca T calls a ac) (hb : DA X W ca T calls b bc) : DE X W ca T calls (.Compare a [.Eq] [b] pos) (.op .eq (ac.cons (bc.cons .nil))) := de_cmp (op_eqA B.hu) s_eq ha hb (nomark _)
theorem t_ne (B : Bd X ca T calls W k) (ha : DA X W ca T calls a ac) (hb : DA X W ca T calls b bc) : DT X W ca T calls (.Compare a [.NotEq] [b] pos) (.op .ne (ac.cons (bc.cons .nil))) := dt_cmp (op_neA B.hu) s_ne ha hb (nomark _)
theorem e_ne (B : Bd X ca T calls W k) (ha : DA X W ca T calls a ac) (hb : DA X W ca T calls b bc) : DE X W ca T calls (.Compare a [.NotEq] [b] pos) (.op .ne (ac.cons (bc.cons .nil))) := de_cmp (op_neA B.hu) s_ne ha hb (nomark _)
theorem t_lt (_ : Bd X ca T calls W k) (ha : DA X W ca T calls a ac) (hb : DA X W ca T calls b bc) : DT X W ca T calls (.Compare a [.Lt] [b] pos) (.op .lt (ac.cons (bc.cons .nil))) := dt_cmp op_lt s_lt ha hb (nomark _)
theorem t_le (_ : Bd X ca T calls W k) (ha : DA X W ca T calls a ac) (hb : DA X W ca T calls b bc) : DT X W ca T calls (.Compare a [.LtE] [b] pos) (.op .le (ac.cons (bc.cons .nil))) := dt_cmp op_le s_le ha hb (nomark _)
theorem t_gt (_ : Bd X ca T calls W k) (ha : DA X W ca T calls a ac) (hb : DA X W ca T calls b bc) : DT X W ca T calls (.Compare a [.Gt] [b] pos) (.op .gt (ac.cons (bc.cons .nil))) := dt_cmp op_gt s_gt ha hb (nomark _)
theorem t_ge (_ : Bd X ca T calls W k) (ha : DA X W ca T calls a ac) (hb : DA X W ca T calls b bc) : DT X W ca T calls (.Compare a [.GtE] [b] pos) (.op .ge (ac.cons (bc.cons .nil))) := dt_cmp op_ge s_ge ha hb (nomark _)
theorem e_lt (_ : Bd X ca T calls W k) (ha : DA X W ca T calls a ac) (hb : DA X W ca T calls b bc) : DE X W ca T calls (.Compare a [.Lt] [b] pos) (.op .lt (ac.cons (bc.cons .nil))) := de_cmp op_lt s_lt ha hb (nomark _)
theorem e_le (_ : Bd X ca T calls W k) (ha : DA X W ca T calls a ac) (hb : DA X W ca T calls b bc) : DE X W ca T calls (.Compare a [.LtE] [b] pos) (.op .le (ac.cons (bc.cons .nil))) := de_cmp op_le s_le ha hb (nomark _)
theorem e_gt (_ : Bd X ca T calls W k) (ha : DA X W ca T calls a ac) (hb : DA X W ca T calls b bc) : DE X W ca T calls (.Compare a [.Gt] [b] pos) (.op .gt (ac.cons (bc.cons .nil))) := de_cmp op_gt s_gt ha hb (nomark _)
theorem e_ge (_ : Bd X ca T calls W k) (ha : DA X W ca T calls a ac) (hb : DA X W ca T calls b bc) : DE X W ca T calls (.Compare a [.GtE] [b] pos) (.op .ge (ac.cons (bc.cons .nil))) := de_cmp op_ge s_ge ha hb (nomark _)
theorem t_in (B : Bd X ca T calls W k) (ha : DA X W ca T calls a ac) (hb : DA X W ca T calls b bc) (hm : behindInMarks .In b = false := by with_unfolding_all rfl) : DT X W ca T calls (.Compare a [.In] [b] pos) (.op .isIn (ac.cons (bc.cons .nil))) := dt_cmp (op_inA B.hu1) s_in ha hb hm
theorem e_in (B : Bd X ca T calls W k) (ha : DA X W ca T calls a ac) (hb : DA X W ca T calls b bc) (hm : behindInMarks .In b = false := by with_unfolding_all rfl) : DE X W ca T calls (.Compare a [.In] [b] pos) (.op .isIn (ac.cons (bc.cons .nil))) := de_cmp (op_inA B.hu1) s_in ha hb hm
theorem t_notIn (B : Bd X ca T calls W k) (ha : DA X W ca T calls a ac) (hb : DA X W ca T calls b bc) (hm : behindInMarks .NotIn b = false := by with_unfolding_all rfl) : DT X W ca T calls (.Compare a [.NotIn] [b] pos) (.op .notIn (ac.cons (bc.cons .nil))) := dt_cmp (op_notInA B.hu1) s_notIn ha hb hm
theorem e_notIn (B : Bd X ca T calls W k) (ha : DA X W ca T calls a ac) (hb : DA X W ca T calls b bc) (hm : behindInMarks .NotIn b = false := by with_unfolding_all rfl) : DE X W ca T calls (.Compare a [.NotIn] [b] pos) (.op .notIn (ac.cons (bc.cons .nil))) := de_cmp (op_notInA B.hu1) s_notIn ha hb hm
theorem t_isN (_ : Bd X ca T calls W k) {j pos'} (ha : DA X W ca T calls a ac) : DT X W ca T calls (.Compare a [.Is] [.Constant .none j pos'] pos) (.op .isN (ac.cons .nil)) := dt_isN op_isN s_isN ha
theorem e_isN (_ : Bd X ca T calls W k) {j pos'} (ha : DA X W ca T calls a ac) : DE X W ca T calls (.Compare a [.Is] [.Constant .none j pos'] pos) (.op .isN (ac.cons .nil)) := de_isN op_isN s_isN ha
theorem t_notN (_ : Bd X ca T calls W k) {j pos'} (ha : DA X W ca T calls a ac) : DT X W ca T calls (.Compare a [.IsNot] [.Constant .none j pos'] pos) (.op .notN (ac.cons .nil)) := dt_isN op_notN s_notN ha
theorem e_notN (_ : Bd X ca T calls W k) {j pos'} (ha : DA X W ca T calls a ac) : DE X W ca T calls (.Compare a [.IsNot] [.Constant .none j pos'] pos) (.op .notN (ac.cons .nil)) := de_isN op_notN s_notN ha
theorem t_leLt (_ : Bd X ca T calls W k) {ae be ce : EC} (ha : DE X W ca T calls a ae) (hb : DE X W ca T calls b be) (hc : DE X W ca T calls c ce) (hm : lastMarks [.LtE, .Lt] [b, c] = false := by with_unfolding_all rfl) : DT X W ca T calls (.Compare a [.LtE, .Lt] [b, c] pos) (.chain .le .lt ae be ce) := dt_chain op_le op_lt s_le s_lt ha hb hc hm
theorem e_leLt (_ : Bd X ca T calls W k) {ae be ce : EC} (ha : DE X W ca T calls a ae) (hb : DE X W ca T calls b be) (hc : DE X W ca T calls c ce) (hm : lastMarks [.LtE, .Lt] [b, c] = false := by with_unfolding_all rfl) : DE X W ca T calls (.Compare a [.LtE, .Lt] [b, c] pos) (.chain .le .lt ae be ce) := de_chain op_le op_lt s_le s_lt ha hb hc hm
theorem t_leLe (_ : Bd X ca T calls W k) {ae be ce : EC} (ha : DE X W ca T calls a ae) (hb : DE X W ca T calls b be) (hc : DE X W ca T calls c ce) (hm : lastMarks [.LtE, .LtE] [b, c] = false := by with_unfolding_all rfl) : DT X W ca T calls (.Compare a [.LtE, .LtE] [b, c] pos) (.chain .le .le ae be ce) := dt_chain op_le op_le s_le s_le ha hb hc hm
/-! arithmetic -/
theorem e_add (_ : Bd X ca T calls W k) (ha : DA X W ca T calls a ac) (hb : DA X W ca T calls b bc) : DE X W ca T calls (.BinOp a .Add b pos) (.op .add (ac.cons (bc.cons .nil))) := de_bin op_addD s_add ha hb
theorem e_sub (_ : Bd X ca T calls W k) (ha : DA X W ca T calls a ac) (hb : DA X W ca T calls b bc) : DE X W ca T calls (.BinOp a .Sub b pos) (.op .sub (ac.cons (bc.cons .nil))) := de_bin op_sub s_sub ha hb
theorem e_mul (_ : Bd X ca T calls W k) (ha : DA X W ca T calls a ac) (hb : DA X W ca T calls b bc) : DE X W ca T calls (.BinOp a .Mult b pos) (.op .mul (ac.cons (bc.cons .nil))) := de_bin op_mul s_mul ha hb
theorem e_fdiv (_ : Bd X ca T calls W k) (ha : DA X W ca T calls a ac) (hb : DA X W ca T calls b bc) : DE X W ca T calls (.BinOp a .FloorDiv b pos) (.op .fdiv (ac.cons (bc.cons .nil))) := de_bin op_fdivN s_fdiv ha hb
theorem e_mod (_ : Bd X ca T calls W k) (ha : DA X W ca T calls a ac) (hb : DA X W ca T calls b bc) : DE X W ca T calls (.BinOp a .Mod b pos) (.op .mod (ac.cons (bc.cons .nil))) := de_bin op_modN s_mod ha hb
theorem e_pow (_ : Bd X ca T calls W k) (ha : DA X W ca T calls a ac) (hb : DA X W ca T calls b bc) : DE X W ca T calls (.BinOp a .Pow b pos) (.op .pow (ac.cons (bc.cons .nil))) := de_bin op_pow s_pow ha hb
theorem e_neg (_ : Bd X ca T calls W k) (ha : DA X W ca T calls a ac) : DE X W ca T calls (.UnaryOp .USub a pos) (.op .neg (ac.cons .nil)) := de_un un_neg s_neg ha
theorem o_rep (_ : Bd X ca T calls W k) (ha : DA X W ca T calls a ac) (hb : DA X W ca T calls b bc) : DO X W ca T calls (.BinOp a .Mult b pos) (.op .rep (ac.cons (bc.cons .nil))) := do_bin op_rep f_rep ha hb
theorem e_idx (_ : Bd X ca T calls W k) (ha : DA X W ca T calls a ac) (hb : DA X W ca T calls b bc) (hp : PlainIx b := by intro _ _; rfl) : DE X W ca T calls (.Subscript a b pos) (.op .idx (ac.cons (bc.cons .nil))) := de_ix ix_seq s_idx ha hb hp
theorem e_fld (B : Bd X ca T calls W k) {f : Str} (ha : DA X W ca T calls a ac) (hb : attributeBase a f X.env (eval a X.env) = eval a X.env := by rfl) : DE X W ca T calls (.Attribute a f pos) (.op (.fld f) (ac.cons .nil)) := de_fld B.attr ha hb
/-! calls of built-ins -/
theorem e_len (B : Bd X ca T calls W k) (ha : DA X W ca T calls e ac) (hg : Gl X "len" := by rfl) (he : starEach [e] X.env = (false, eval e X.env) :: starEach [] X.env := by rfl) : DE X W ca T calls (.Call (.Name "len" p) [e] [] pos) (.op .len (ac.cons .nil)) := de_callB call_lenA s_len hg B.bi.len boot_len (das_cons ha das_nil he) rfl (by decide) (by decide) he rfl
theorem e_abs (B : Bd X ca T calls W k) (ha : DA X W ca T calls e ac) (hg : Gl X "abs" := by rfl) (he : starEach [e] X.env = (false, eval e X.env) :: starEach [] X.env := by rfl) : DE X W ca T calls (.Call (.Name "abs" p) [e] [] pos) (.op .abs (ac.cons .nil)) := de_callB call_abs s_abs hg B.bi.abs boot_abs (das_cons ha das_nil he) rfl (by decide) (by decide) he rfl
theorem e_sum (B : Bd X ca T calls W k) (ha : DA X W ca T calls e ac) (hg : Gl X "sum" := by rfl) (he : starEach [e] X.env = (false, eval e X.env) :: starEach [] X.env := by rfl) : DE X W ca T calls (.Call (.Name "sum" p) [e] [] pos) (.op .sum (ac.cons .nil)) := de_callB (cr_sum B.calm) s_sum hg B.bi.sum boot_sum (das_cons ha das_nil he) rfl (by decide) (by decide) he rfl
theorem e_repr (B : Bd X ca T calls W k) (ha : DA X W ca T calls e ac) (hg : Gl X "repr" := by rfl) (he : starEach [e] X.env = (false, eval e X.env) :: starEach [] X.env := by rfl) : DE X W ca T calls (.Call (.Name "repr" p) [e] [] pos) (.op .repr (ac.cons .nil)) := de_callB (call_reprA B.go.grd B.hu) s_repr hg B.bi.repr boot_repr (das_cons ha das_nil he) rfl (by decide) (by decide) he rfl
theorem e_int (B : Bd X ca T calls W k) (ha : DA X W ca T calls e ac) (hg : Gl X "int" := by rfl) (he : starEach [e] X.env = (false, eval e X.env) :: starEach [] X.env := by rfl) : DE X W ca T calls (.Call (.Name "int" p) [e] [] pos) (.op .int (ac.cons .nil)) := de_callTy call_int1 s_int hg B.bi.int boot_int (das_cons ha das_nil he) rfl (by decide) (by decide) he rfl
theorem e_tuple (B : Bd X ca T calls W k) (ha : DA X W ca T calls e ac) (hg : Gl X "tuple" := by rfl) (he : starEach [e] X.env = (false, eval e X.env) :: starEach [] X.env := by rfl) : DE X W ca T calls (.Call (.Name "tuple" p) [e] [] pos) (.op .tuple (ac.cons .nil)) := de_callTy call_tuple_of s_tuple hg B.bi.tuple boot_tuple (das_cons ha das_nil he) rfl (by decide) (by decide) he rfl
theorem o_list (B : Bd X ca T calls W k) (ha : DA X W ca T calls e ac) (hg : Gl X "list" := by rfl) (he : starEach [e] X.env = (false, eval e X.env) :: starEach [] X.env := by rfl) : DO X W ca T calls (.Call (.Name "list" p) [e] [] pos) (.op .list (ac.cons .nil)) := do_callTy call_list_of f_list hg B.bi.list boot_list (das_cons ha das_nil he) (by decide) (by decide) he rfl
theorem e_olen (B : Bd X ca T calls W k) {ae : EC} (M : MethD X ca T calls k "__len__") (ha : DE X W ca T calls e ae) (hg : Gl X "len" := by rfl) (he : starEach [e] X.env = (false, eval e X.env) :: starEach [] X.env := by rfl) : DE X W ca T calls (.Call (.Name "len" p) [e] [] pos) (.olen ae) := de_olen B.go M hg B.bi.len boot_len ha (by decide) (by decide) he
/-! methods of lists -/
theorem e_append (_ : Bd X ca T calls W k) {i : Nat} {x : Str} {apos : Pos} (ha : DA X W ca T calls e ac) (hx : PE X (.Name x p) (tVar i)) (hb : attributeBase (.Name x p) ("append" : Str) X.env (eval (.Name x p) X.env) = eval (.Name x p) X.env := by rfl)
    (hf : ((backTo pos (starEach [e] X.env)).all (fun x => !x.1) && (backToKw pos (keywordEach [] X.env)).all (fun x => x.1.isSome) && decide ([e].length + ([] : List Keyword).length + (if ([] : List Keyword).isEmpty then 0 else 1) < 30)) = true := by rfl)
    (hl : (apos.endLine == pos.line) = true := by rfl) (hs : starEach [e] X.env = (false, eval e X.env) :: starEach [] X.env := by rfl) : DE X W ca T calls (.Call (.Attribute (.Name x p) ("append" : Str) apos) [e] [] pos) (.mut .append i (ac.cons .nil)) :=
  de_mut PySem.F.slot_list_append PySem.F.type_list_append mt_append m_append (das_cons ha das_nil hs) hx hb hf hl hs rfl
theorem e_extend (_ : Bd X ca T calls W k) {i : Nat} {x : Str} {apos : Pos} (ha : DA X W ca T calls e ac) (hx : PE X (.Name x p) (tVar i)) (hb : attributeBase (.Name x p) ("extend" : Str) X.env (eval (.Name x p) X.env) = eval (.Name x p) X.env := by rfl)
    (hf : ((backTo pos (starEach [e] X.env)).all (fun x => !x.1) && (backToKw pos (keywordEach [] X.env)).all (fun x => x.1.isSome) && decide ([e].length + ([] : List Keyword).length + (if ([] : List Keyword).isEmpty then 0 else 1) < 30)) = true := by rfl)
    (hl : (apos.endLine == pos.line) = true := by rfl) (hs : starEach [e] X.env = (false, eval e X.env) :: starEach [] X.env := by rfl) : DE X W ca T calls (.Call (.Attribute (.Name x p) ("extend" : Str) apos) [e] [] pos) (.mut .extend i (ac.cons .nil)) :=
  de_mut PySem.F.slot_list_extend PySem.F.type_list_extend mt_extend m_extend (das_cons ha das_nil hs) hx hb hf hl hs rfl
theorem e_pop (_ : Bd X ca T calls W k) {i : Nat} {x : Str} {apos : Pos} (hx : PE X (.Name x p) (tVar i)) (hb : attributeBase (.Name x p) ("pop" : Str) X.env (eval (.Name x p) X.env) = eval (.Name x p) X.env := by rfl)
    (hl : (apos.endLine == pos.line) = true := by rfl) : DE X W ca T calls (.Call (.Attribute (.Name x p) ("pop" : Str) apos) [] [] pos) (.mut .pop i .nil) :=
  de_mut0 PySem.F.slot_list_pop PySem.F.type_list_pop mt_pop m_pop hx hb hl
theorem vr (i : Nat) {x : Str} (hN : X.N[i]? = some x := by rfl) (hv : Vis X.env.scope x := by first | exact Or.inl rfl | exact Or.inr (Or.inl rfl) | exact Or.inr (Or.inr rfl)) (hd : (x == ("__debug__" : Str)) = false := by decide)
    (hcd : (x == ("__classdict__" : Str)) = false := by decide) : PE X (.Name x p) (tVar i) := pe_var hN hv hd hcd
/-! iterators -/
theorem i_rng1 (B : Bd X ca T calls W k) {tg : Expr} {ae : EC} (ha : DE X W ca T calls e ae) (hg : Gl X "range" := by rfl) (hs : starEach [e] X.env = [(false, eval e X.env)] := by rfl) : DI X W ca T calls tg (.Call (.Name "range" p) [e] [] pos) (.rng1 ae) := di_rng1 hg B.bi.range ha hs
theorem i_rng2 (B : Bd X ca T calls W k) {tg : Expr} {ae be : EC} (ha : DE X W ca T calls a ae) (hb : DE X W ca T calls b be) (hg : Gl X "range" := by rfl) (hs : starEach [a, b] X.env = [(false, eval a X.env), (false, eval b X.env)] := by rfl) (hs2 : starEach [b] X.env = [(false, eval b X.env)] := by rfl) :
    DI X W ca T calls tg (.Call (.Name "range" p) [a, b] [] pos) (.rng2 ae be) := di_rng2 hg B.bi.range ha hb hs hs2
theorem i_enum (B : Bd X ca T calls W k) {ae : EC} {elts : List Expr} {kk : Nat} {tpos : Pos} (ha : DE X W ca T calls e ae) (hg : Gl X "enumerate" := by rfl) (hs : starEach [e] X.env = (false, eval e X.env) :: starEach [] X.env := by rfl) :
    DI X W ca T calls (.Tuple elts kk tpos) (.Call (.Name "enumerate" p) [e] [] pos) (.enum ae) := di_enum hg B.bi.enum ha hs
theorem i_zip (B : Bd X ca T calls W k) {ae be : EC} {elts : List Expr} {kk : Nat} {tpos : Pos} (ha : DE X W ca T calls a ae) (hb : DE X W ca T calls b be) (hg : Gl X "zip" := by rfl) (hs2 : starEach [b] X.env = (false, eval b X.env) :: starEach [] X.env := by rfl)
    (hs : starEach [a, b] X.env = (false, eval a X.env) :: starEach [b] X.env := by rfl) (hpl : (backTo pos (starEach [b] X.env)).any (·.1) = false := by rfl) : DI X W ca T calls (.Tuple elts kk tpos) (.Call (.Name "zip" p) [a, b] [] pos) (.zip ae be) := di_zip hg B.bi.zip ha hb hs2 hs hpl
/-! names as targets; statements -/
theorem g_nm (B : Bd X ca T calls W k) (i : Nat) {x : Str} (hi : X.N[i]? = some x := by rfl) (hx : Loc X.env.scope x := by first | exact Or.inl rfl | exact Or.inr rfl) (hf : X.fn x = true ∨ X.env.scope.names.lookup x = some .local := by first | exact Or.inr rfl | exact Or.inl rfl) : DG X ca (.Name x pos) (.name i) := dg_name i B.nd hi hx hf
theorem g_tup (B : Bd X ca T calls W k) {is : List Nat} {kk : Nat} (h : PGs X es (gNames is)) (hl : es.length = is.length := by rfl) (hn : (assignEach es X.env).length = es.length := by rfl) (hst : (assignEach es X.env).findIdx? (·.1) = none := by rfl) : DG X ca (.Tuple es kk pos) (.tup is) := dg_tup B.calm h hl hn hst
theorem g_c (B : Bd X ca T calls W k) {is : List Nat} (i : Nat) {x : Str} (h : PGs X es (gNames is)) (hi : X.N[i]? = some x := by rfl) (hx : Loc X.env.scope x := by first | exact Or.inl rfl | exact Or.inr rfl) (hf : X.fn x = true ∨ X.env.scope.names.lookup x = some .local := by first | exact Or.inr rfl | exact Or.inl rfl)
    (hs : (assignEach (.Name x pos :: es) X.env).map (·.2) = assign (.Name x pos) X.env :: (assignEach es X.env).map (·.2) := by rfl) : PGs X (.Name x pos :: es) (gNames (i :: is)) := pgs_nm i B.nd h hi hx hf hs
/-- augmented operators -/
theorem ip_addD : PIp X .Add rAddD := fun pins s σ H x y v u Q I rx ry h => h.elim (iop_add pins s σ H x y v u Q I rx ry) (iop_add_str pins s σ H x y v u Q I rx ry)
theorem ip_subD : PIp X .Sub (rI0 fun i j => .int (i - j)) := iop_sub
end

/-! ### the program -/
/-- each def of the table keeps its promise -/
def Alls (P : Program) (w : World) (K : PySem.W.Frag) (mg : Str → Option Value) (base : Heap) (ca : Nat → Addr) (T : Tab) (defs : List ((Str × Option Str) × List Str)) (calls : Calls) (k : Nat) : Prop :=
  ∀ f p ps, defs[f]? = some (p, ps) → ∃ fd, FnG P w K mg base k (He.fAd K p) fd ps (spF K ca T calls f) ∧ Binds K fd ps [] ∧ PySem.W.keepIn K (.ref (He.fAd K p)) = true
/-- a def that is called by keywords alone -/
def KwOk (P : Program) (w : World) (K : PySem.W.Frag) (mg : Str → Option Value) (base : Heap) (ca : Nat → Addr) (T : Tab) (calls : Calls) (k f : Nat) (p : Str × Option Str) (ps ks : List Str) : Prop :=
  ∃ fd, FnG P w K mg base k (He.fAd K p) fd ps (spF K ca T calls f) ∧ (∀ s ws, K.In s.heap → ws.length = ks.length → BindsTo s fd ⟨[], ks.zip ws⟩ (ps.zip ws)) ∧ PySem.W.keepIn K (.ref (He.fAd K p)) = true
section
variable {X : Cx} {W : WX} {ca : Nat → Addr} {T : Tab} {defs : List ((Str × Option Str) × List Str)} {calls : Calls} {k : Nat} {e : Expr} {es : List Expr} {pos p : Pos} {as : ACs} {x : Str} {ps : List Str}
theorem e_call (B : Bd X ca T calls W k) (A : Alls X.prog X.w X.K X.mg X.base ca T defs calls k) (f : Nat) (ha : DAs X W ca T calls (e :: es) as) (hm : X.mg x = some (.ref (He.ga X.K x))) (hf : defs[f]? = some ((x, none), ps) := by rfl) (hg : Gl X x := by rfl)
    (hdb : (x == ("__debug__" : Str)) = false := by decide) (he : starEach (e :: es) X.env = (false, eval e X.env) :: starEach es X.env := by rfl) (hpl : (backTo pos (starEach es X.env)).any (·.1) = false := by rfl) :
    DE X W ca T calls (.Call (.Name x p) (e :: es) [] pos) (.call f as) := by
  obtain ⟨fd, G, hb, hk⟩ := A f _ _ hf
  exact de_call B.go G hg hm hk hb ha hdb he hpl
theorem o_call (B : Bd X ca T calls W k) (A : Alls X.prog X.w X.K X.mg X.base ca T defs calls k) (f : Nat) (ha : DAs X W ca T calls (e :: es) as) (hm : X.mg x = some (.ref (He.ga X.K x))) (hf : defs[f]? = some ((x, none), ps) := by rfl) (hg : Gl X x := by rfl)
    (hdb : (x == ("__debug__" : Str)) = false := by decide) (he : starEach (e :: es) X.env = (false, eval e X.env) :: starEach es X.env := by rfl) (hpl : (backTo pos (starEach es X.env)).any (·.1) = false := by rfl) :
    DO X W ca T calls (.Call (.Name x p) (e :: es) [] pos) (.call f as) := by
  obtain ⟨fd, G, hb, hk⟩ := A f _ _ hf
  exact do_call B.go G hg hm hk hb ha hdb he hpl
theorem e_new (B : Bd X ca T calls W k) (A : Alls X.prog X.w X.K X.mg X.base ca T defs calls k) (c f : Nat) (ha : DAs X W ca T calls (e :: es) as) (hm : X.mg x = some (.ref (He.ga X.K x))) (hM : Mk X.K (He.ga X.K x) (He.ma X.K (He.ga X.K x) "__init__")) (hc : ca c = He.ga X.K x)
    (hi : T.init c = some f := by rfl) (hf : defs[f]? = some ((x, some ("__init__" : Str)), ps) := by rfl) (hg : Gl X x := by rfl)
    (hdb : (x == ("__debug__" : Str)) = false := by decide) (he : starEach (e :: es) X.env = (false, eval e X.env) :: starEach es X.env := by rfl) (hpl : (backTo pos (starEach es X.env)).any (·.1) = false := by rfl) :
    DE X W ca T calls (.Call (.Name x p) (e :: es) [] pos) (.new c as) := by
  obtain ⟨fd, G, hb, hk⟩ := A f _ _ hf
  exact de_new B.go hM hc hi G hg hm hb ha hdb he hpl
/-- f(k = v, ..): only keywords, in the order of the parameters -/
theorem e_callK {kws : List Keyword} {ks : List Str} (B : Bd X ca T calls W k) (f : Nat) (A : KwOk X.prog X.w X.K X.mg X.base ca T calls k f (x, none) ps ks) (ha : PK X kws (tAs X.K ca T calls W as)) (hm : X.mg x = some (.ref (He.ga X.K x))) (hl : ps.length = ks.length := by rfl) (hg : Gl X x := by rfl)
    (hall : (backToKw pos (keywordEach kws X.env)).all (·.1.isSome) = true := by rfl) (hks : (backToKw pos (keywordEach kws X.env)).filterMap (·.1) = ks := by rfl) (hpl : ((backTo pos (starEach [] X.env)).any (·.1) || (backToKw pos (keywordEach kws X.env)).any (·.1.isNone)) = false := by rfl)
    (hdb : (x == ("__debug__" : Str)) = false := by decide) : DE X W ca T calls (.Call (.Name x p) [] kws pos) (.call f as) := by
  obtain ⟨fd, G, hb, hk⟩ := A
  refine ⟨fun pins s σ H Q I h => ?_⟩
  refine wpAny_Call_Name_kw (ld_glob I hg hm ?_ hdb)
  refine PySem.W.callWith_KW0 (h₀ := X.base) I.ok.mod.kin hk hall (thn (ha.run pos pins s σ H _ I (tE_call h)) fun ws s1 ⟨zs, H1, J, r, q⟩ => ⟨J.kIn, ?_⟩) hpl
  rw [hks]
  have hl2 := G.len _ _ _ _ q
  rw [r.length, hl] at hl2
  exact wpAny_call (codeAny_mono (G.go X.A X.stack s1 H1 ⟨[], ks.zip ws⟩ ws zs Q _ (B.go.room.mono (Nat.le_succ _)) B.go.grd J.env0 (hb s1 ws J.kIn hl2) r q) fun r s' hq => back_of B.go.tk J hq)
end
theorem pk_no {X : Cx} {W : WX} {ca : Nat → Addr} {T : Tab} {calls : Calls} : PK X [] (tAs X.K ca T calls W .nil) := ⟨fun pos pins s σ H Q I h => pk_nil.run pos pins s σ H Q I (tAs_nil h)⟩
theorem pk_c {X : Cx} {W : WX} {ca : Nat → Addr} {T : Tab} {calls : Calls} {e : Expr} {nm : Option Str} {kpos : Pos} {kws : List Keyword} {ac : A1} {as : ACs} (ha : DA X W ca T calls e ac) (hr : PK X kws (tAs X.K ca T calls W as)) : PK X (⟨nm, e, kpos⟩ :: kws) (tAs X.K ca T calls W (ac.cons as)) :=
  ⟨fun pos pins s σ H Q I h => (pk_cons ha hr).run pos pins s σ H Q I (tAs_cons h)⟩

/-! ### a hook with looks of one's own -/
abbrev AlX : Type := He.AlT × Bool
def obsX (fa : List He.Fa) (fn : List He.DefD) (ts : List He.Tab) (ex : PySem.W.Frag → Bool) (K : PySem.W.Frag) : AlX := (He.obsT fa fn ts K, ex K)
def valX (fn : List He.DefD) (ts : List He.Tab) (w : World) : AlX := (He.valT fn ts w, true)
def obsXG (n : Nat) (fa : List He.Fa) (fn : List He.DefD) (ts : List He.Tab) (ex : PySem.W.Frag → Bool) (g : Addr → Option Obj) : AlX := obsX fa fn ts ex (He.frG g (He.asD g n))
structure SaysX (fa : List He.Fa) (fn : List He.DefD) (ts : List He.Tab) (ex : PySem.W.Frag → Bool) (w : World) (K : PySem.W.Frag) : Prop where
  t : He.SaysT fa fn ts w K
  x : ex K = true
def hookX (n : Nat) (fa : List He.Fa) (fn : List He.DefD) (ts : List He.Tab) (ex : PySem.W.Frag → Bool) : PySem.W.Hook where
  α := AlX
  obs := fun s => obsXG n fa fn ts ex s.heap.get?
  val := fun w => valX fn ts w
  says := fun w h => ∃ K : PySem.W.Frag, K.In h ∧ SaysX fa fn ts ex w K
  of := fun s w e => ⟨_, He.frG_in, (Prod.ext_iff.mp e).1, (Prod.ext_iff.mp e).2⟩
  keeps := fun _ _ _ ⟨K, hK, c⟩ k => ⟨K, PySem.W.Frag.In.keeps hK k, c⟩
theorem obsXG_eq {n : Nat} {fa : List He.Fa} {fn : List He.DefD} {ts : List He.Tab} {ex : PySem.W.Frag → Bool} {g : Addr → Option Obj} {s : Shared} (h : ∀ a, g a = s.heap.get? a) : obsXG n fa fn ts ex g = (hookX n fa fn ts ex).obs s := by
  have e : g = s.heap.get? := funext h
  rw [e]
  rfl
end DV


set_option maxRecDepth 100000
set_option maxHeartbeats 4000000
/-! DV18: running codes by hand: loops, comprehensions, runs. -/
namespace DV
open PySem PySem.Spec PyProof.Rows L2

section
variable {T : Tab} {calls : Calls}
/-- each turn of a for keeps P and goes on -/
theorem forD_ok {step : D → Ce → Option Fl} (P : Nat → Ce → Prop) : ∀ (xs : List D) (i : Nat) (env : Ce), P i env → (∀ (j : Nat) (d : D) (e : Ce), xs[j]? = some d → P (i + j) e → ∃ e', step d e = some (.nx e') ∧ P (i + j + 1) e') → ∃ e', forD step xs env = some (.nx e') ∧ P (i + xs.length) e'
  | [], i, env, h, _ => ⟨env, rfl, h⟩
  | x :: xs, i, env, h, hs => by
    obtain ⟨e1, h1, h2⟩ := hs 0 x env rfl h
    obtain ⟨e2, h3, h4⟩ := forD_ok P xs (i + 1) e1 h2 fun j d e hj hp => by
      have := hs (j + 1) d e (by simpa using hj) (by rw [show i + (j + 1) = i + 1 + j by omega]; exact hp)
      rwa [show i + (j + 1) + 1 = i + 1 + j + 1 by omega] at this
    refine ⟨e2, ?_, by rw [List.length_cons, show i + (xs.length + 1) = i + 1 + xs.length by omega]; exact h4⟩
    show (match step x env with
      | some (.nx env') => forD step xs env'
      | some (.ct env') => forD step xs env'
      | some (.bk env') => some (.nx env')
      | r => r) = _
    rw [h1]
    exact h3
theorem wipeC_get {vs : List Nat} {env : Ce} {i : Nat} : (wipeC env vs)[i]? = if i ∈ vs then env[i]?.map (fun _ => Cell.emp) else env[i]? := by
  by_cases h : i ∈ vs
  · rw [if_pos h]
    cases q : (wipeC env vs)[i]? with
    | none =>
      have : env.length ≤ i := by
        have := List.getElem?_eq_none_iff.mp q
        rwa [wipeC_length] at this
      rw [List.getElem?_eq_none this]
      rfl
    | some c =>
      have hc := wipeC_in h q
      have : i < env.length := by
        have := (List.getElem?_eq_some_iff.mp q).1
        rwa [wipeC_length] at this
      rw [List.getElem?_eq_getElem this, hc]
      rfl
  · rw [if_neg h, wipeC_out h]
theorem backC_eq {own : List Nat} {e0 e : Ce} (h : wipeC e own = wipeC e0 own) : backC e0 e own = e0 := by
  have hl : e.length = e0.length := by rw [← wipeC_length own e, h, wipeC_length]
  apply List.ext_getElem?
  intro i
  rw [backC_get]
  have hi : (wipeC e own)[i]? = (wipeC e0 own)[i]? := by rw [h]
  by_cases z : i ∈ own
  · cases q : e[i]? with
    | none =>
      have : e0.length ≤ i := by rw [← hl]; exact List.getElem?_eq_none_iff.mp q
      rw [List.getElem?_eq_none this]
      rfl
    | some c =>
      have : i < e0.length := by rw [← hl]; exact (List.getElem?_eq_some_iff.mp q).1
      rw [Option.map_some, if_pos z, List.getD_eq_getElem?_getD, List.getElem?_eq_getElem this]
      rfl
  · rw [wipeC_out z, wipeC_out z] at hi
    rw [hi]
    cases q : e0[i]? with
    | none => rfl
    | some c => rw [Option.map_some, if_neg z]
theorem wipe_idem {own : List Nat} {env : Ce} : wipeC (wipeC env own) own = wipeC env own := by
  apply List.ext_getElem?
  intro i
  rw [wipeC_get, wipeC_get]
  by_cases z : i ∈ own
  · rw [if_pos z, if_pos z]
    cases env[i]? <;> rfl
  · rw [if_neg z, if_neg z]
theorem lcD_ok {own : List Nat} {env1 : Ce} {step : D → Ce → Option (Option D × Ce)} (f : D → Option D) : ∀ (xs acc : List D) (e : Ce), wipeC e own = wipeC env1 own → acc.length + xs.length ≤ 1000000 →
    (∀ x ∈ xs, ∀ e, wipeC e own = wipeC env1 own → ∃ e', step x e = some (f x, e') ∧ wipeC e' own = wipeC env1 own) → ∃ e', lcD step xs acc e = some (acc ++ xs.filterMap f, e') ∧ wipeC e' own = wipeC env1 own
  | [], acc, e, h, _, _ => ⟨e, by rw [List.filterMap_nil, List.append_nil]; rfl, h⟩
  | x :: xs, acc, e, h, hl, hs => by
    obtain ⟨e1, h1, h2⟩ := hs x List.mem_cons_self e h
    rw [List.length_cons] at hl
    cases q : f x with
    | none =>
      obtain ⟨e2, h3, h4⟩ := lcD_ok f xs acc e1 h2 (by omega) fun y hy => hs y (List.mem_cons_of_mem _ hy)
      refine ⟨e2, ?_, h4⟩
      rw [List.filterMap_cons_none q]
      show (match step x e with
        | some (some d, env') => if acc.length < 1000000 then lcD step xs (acc ++ [d]) env' else none
        | some (none, env') => lcD step xs acc env'
        | none => none) = _
      rw [h1, q]
      exact h3
    | some d =>
      obtain ⟨e2, h3, h4⟩ := lcD_ok f xs (acc ++ [d]) e1 h2 (by rw [List.length_append]; simp; omega) fun y hy => hs y (List.mem_cons_of_mem _ hy)
      refine ⟨e2, ?_, h4⟩
      rw [List.filterMap_cons_some q]
      show (match step x e with
        | some (some d, env') => if acc.length < 1000000 then lcD step xs (acc ++ [d]) env' else none
        | some (none, env') => lcD step xs acc env'
        | none => none) = _
      rw [h1, q]
      dsimp only
      rw [if_pos (by omega), h3, List.append_assoc]
      rfl
theorem lc_fin {own : List Nat} {env1 : Ce} {step : D → Ce → Option (Option D × Ce)} {items R : List D} (h : ∃ e', lcD step items [] env1 = some ([] ++ R, e') ∧ wipeC e' own = wipeC env1 own) : lcEnd env1 own (lcD step items [] env1) = some (.ok (.lst R) env1) := by
  obtain ⟨e', h5, h6⟩ := h
  rw [h5, List.nil_append]
  show some (XR.ok (D.lst R) (backC env1 e' own)) = _
  rw [backC_eq h6]
theorem filterMap_if {items : List D} {p : D → Bool} {f : D → D} : items.filterMap (fun x => if p x = true then some (f x) else none) = (items.filter p).map f := by
  induction items with
  | nil => rfl
  | cons x xs ih =>
    cases hp : p x with
    | true => rw [List.filterMap_cons_some (by rw [hp]; rfl), List.filter_cons_of_pos hp, List.map_cons, ih]
    | false => rw [List.filterMap_cons_none (by rw [hp]; rfl), List.filter_cons_of_neg (by rw [hp]; simp), ih]
theorem evO_lc {own : List Nat} {it : IC} {tg : Tg} {elt : EC} {env env1 : Ce} {items : List D} (f : D → D) (h1 : evI T calls it env = some (.ok items env1)) (h2 : plainAt env1 own = true) (h3 : items.length ≤ 1000000)
    (h4 : ∀ x ∈ items, ∃ e1 e2, setTg tg x (wipeC env1 own) = some e1 ∧ evE T calls elt e1 = some (.ok (f x) e2) ∧ wipeC e2 own = wipeC env1 own) : evO T calls (.lc own it tg elt) env = some (.ok (.lst (items.map f)) env1) := by
  rw [evO, h1]
  show (if plainAt env1 own = true then _ else none) = _
  rw [if_pos h2, ← List.filterMap_eq_map']
  refine lc_fin (lcD_ok (fun x => some (f x)) items [] env1 rfl (by simpa using h3) fun x hx e he => ?_)
  obtain ⟨e1, e2, q1, q2, q3⟩ := h4 x hx
  refine ⟨e2, ?_, q3⟩
  rw [he, q1]
  dsimp only
  rw [q2]
  rfl
theorem evO_lci {own : List Nat} {it : IC} {tg : Tg} {cd elt : EC} {env env1 : Ce} {items : List D} (p : D → Bool) (f : D → D) (h1 : evI T calls it env = some (.ok items env1)) (h2 : plainAt env1 own = true) (h3 : items.length ≤ 1000000)
    (h4 : ∀ x ∈ items, ∃ e1 e2, setTg tg x (wipeC env1 own) = some e1 ∧ evE T calls cd e1 = some (.ok (.bl (p x)) e2) ∧ wipeC e2 own = wipeC env1 own ∧ (p x = true → ∃ e3, evE T calls elt e2 = some (.ok (f x) e3) ∧ wipeC e3 own = wipeC env1 own)) :
    evO T calls (.lci own it tg cd elt) env = some (.ok (.lst ((items.filter p).map f)) env1) := by
  rw [evO, h1]
  show (if plainAt env1 own = true then _ else none) = _
  rw [if_pos h2, ← filterMap_if]
  refine lc_fin (lcD_ok (fun x => if p x = true then some (f x) else none) items [] env1 rfl (by simpa using h3) fun x hx e he => ?_)
  obtain ⟨e1, e2, q1, q2, q3, q4⟩ := h4 x hx
  rw [he, q1]
  dsimp only
  rw [q2]
  cases hp : p x with
  | false => exact ⟨e2, rfl, q3⟩
  | true =>
    obtain ⟨e3, q5, q6⟩ := q4 hp
    refine ⟨e3, ?_, q6⟩
    dsimp only [onlyOk]
    rw [q5]
    rfl
/-- one call deeper -/
theorem run_of {f d : Nat} {c : FnC} {ds : List D} {r : Res} (hc : T.code f = some c) (hl : ds.length = c.ms.length) (hn : c.ms.length ≤ c.n) (h : ∀ m, d ≤ m → endC c (evSs T (run T m) c.body (start0 c ds)) = some r) : ∀ m, d + 1 ≤ m → run T m f ds = some r
  | 0, hm => by omega
  | m + 1, hm => by
    show (match T.code f with
      | some c => runC T (run T m) c ds
      | none => none) = _
    rw [hc]
    show (if ds.length = c.ms.length ∧ c.ms.length ≤ c.n then endC c (evSs T (run T m) c.body (start0 c ds)) else none) = _
    rw [if_pos ⟨hl, hn⟩]
    exact h m (by omega)
/-- a for whose turns all go on -/
theorem for_ok {it : IC} {tg : Tg} {body : SCs} {env env1 : Ce} {items : List D} (P : Nat → Ce → Prop) (h1 : evI T calls it env = some (.ok items env1)) (h0 : P 0 env1)
    (hs : ∀ (j : Nat) (d : D) (e : Ce), items[j]? = some d → P j e → ∃ e1 e', setTg tg d e = some e1 ∧ evSs T calls body e1 = some (.nx e') ∧ P (j + 1) e') : ∃ e', evS T calls (.for_ it tg body) env = some (.nx e') ∧ P items.length e' := by
  rw [evS, h1]
  obtain ⟨e', h2, h3⟩ := forD_ok (step := fun x e => match setTg tg x e with
      | some e1 => evSs T calls body e1
      | none => none) P items 0 env1 h0 fun j d e hj hp => by
    obtain ⟨e1, e', q1, q2, q3⟩ := hs j d e hj (by rwa [Nat.zero_add] at hp)
    refine ⟨e', ?_, by rwa [Nat.zero_add]⟩
    rw [q1]
    exact q2
  exact ⟨e', h2, by rwa [Nat.zero_add] at h3⟩
theorem evI_rng1 {a : EC} {env env' : Ce} {n : Nat} (h : evE T calls a env = some (.ok (.int n) env')) (hn : n ≤ 1000000) : evI T calls (.rng1 a) env = some (.ok (rngD 0 n) env') := by
  rw [evI, h]
  show (if (n : Int).natAbs < 4611686018427387904 then some (XR.ok (rngD 0 n) env') else none) = _
  rw [if_pos (by omega)]
theorem evI_seq {a : EC} {d : D} {ds : List D} {env env' : Ce} (h : evE T calls a env = some (.ok d env')) (hd : itemsD d = some ds) : evI T calls (.seq a) env = some (.ok ds env') := by
  rw [evI, h]
  show okO (itemsD d) env' = _
  rw [hd]
  rfl
theorem rng_get {n j : Nat} {d : D} (h : (rngD 0 (n : Int))[j]? = some d) : j < n ∧ d = .int (j : Nat) := by
  unfold rngD at h
  rw [List.getElem?_map] at h
  cases q : (List.range ((n : Int) - 0).toNat)[j]? with
  | none => rw [q] at h; cases h
  | some y =>
    rw [q] at h
    obtain ⟨q1, q2⟩ := List.getElem?_eq_some_iff.mp q
    rw [List.length_range] at q1
    rw [List.getElem_range] at q2
    cases h
    subst q2
    exact ⟨by omega, by simp⟩
theorem rng_len (n : Nat) : (rngD 0 (n : Int)).length = n := by simp [rngD]
/-- statements, one by one -/
theorem evSs_cons {s : SC} {r : SCs} {env env' : Ce} {z : Option Fl} (h1 : evS T calls s env = some (.nx env')) (h2 : evSs T calls r env' = z) : evSs T calls (.cons s r) env = z := by
  rw [evSs, h1]
  exact h2
theorem evSs_ret {s : SC} {r : SCs} {env env' : Ce} {d : D} (h1 : evS T calls s env = some (.rt d env')) : evSs T calls (.cons s r) env = some (.rt d env') := by
  rw [evSs, h1]
end
end DV


set_option maxRecDepth 100000
set_option maxHeartbeats 4000000
/-! DV19: data that are equal to themselves and shown. -/
namespace DV
open PySem
mutual
def il (b : Nat) : PyData → Bool
  | .int i => decide (i.natAbs < 10 ^ b)
  | .list xs => ils b xs
  | .tuple xs => ils b xs
  | .dict _ => false
  | .none => true
  | .bool _ => true
  | .str x => PyData.strOk x
def ils (b : Nat) : List PyData → Bool
  | [] => true
  | x :: xs => il b x && ils b xs
end
theorem log_of {n b : Nat} (h : n < 10 ^ b) (hb : 0 < b) : n.log2 < 4 * b := by
  rcases Nat.eq_zero_or_pos n with z | z
  · subst z
    rw [show Nat.log2 0 = 0 from by decide]
    omega
  · refine (Nat.log2_lt (by omega)).mpr (Nat.lt_of_lt_of_le h ?_)
    rw [Nat.pow_mul]
    exact Nat.pow_le_pow_left (by decide) b
mutual
theorem il_lay {b : Nat} : ∀ {d : PyData}, il b d = true → d.canLay0 = true
  | .int i, _ => rfl
  | .none, _ => rfl
  | .bool _, _ => rfl
  | .str x, h => h
  | .dict _, h => by cases h
  | .list xs, h => ils_lay (xs := xs) h
  | .tuple xs, h => ils_lay (xs := xs) h
theorem ils_lay {b : Nat} : ∀ {xs : List PyData}, ils b xs = true → PyData.canLayAll0 xs = true
  | [], _ => rfl
  | x :: xs, h => by
    have h' : (il b x && ils b xs) = true := h
    rw [Bool.and_eq_true] at h'
    show (PyData.canLay0 x && PyData.canLayAll0 xs) = true
    rw [il_lay h'.1, ils_lay h'.2]
    rfl
end
mutual
theorem il_short {b : Nat} (hb : 0 < b) : ∀ {d : PyData}, il b d = true → d.intsShort (b + 1) = true
  | .int i, h => decide_eq_true (by
    have h' : i.natAbs < 10 ^ b := of_decide_eq_true h
    show (Str.ofString (toString i)).length ≤ b + 1
    rw [ofString_length]
    exact int_text_length_le10 hb h')
  | .none, _ => rfl
  | .bool _, _ => rfl
  | .str x, h => rfl
  | .dict _, h => by cases h
  | .list xs, h => ils_short hb (xs := xs) h
  | .tuple xs, h => ils_short hb (xs := xs) h
theorem ils_short {b : Nat} (hb : 0 < b) : ∀ {xs : List PyData}, ils b xs = true → PyData.intsShortAll (b + 1) xs = true
  | [], _ => rfl
  | x :: xs, h => by
    have h' : (il b x && ils b xs) = true := h
    rw [Bool.and_eq_true] at h'
    show (PyData.intsShort (b + 1) x && PyData.intsShortAll (b + 1) xs) = true
    rw [il_short hb h'.1, ils_short hb h'.2]
    rfl
end
mutual
theorem il_show {b : Nat} (hb : 0 < b) (hb2 : b ≤ 470) : ∀ {d : PyData}, il b d = true → d.showable = true
  | .int i, h => decide_eq_true (by
    have h' : i.natAbs < 10 ^ b := of_decide_eq_true h
    have := log_of h' hb
    omega)
  | .none, _ => rfl
  | .bool _, _ => rfl
  | .str x, h => rfl
  | .dict _, h => by cases h
  | .list xs, h => ils_show hb hb2 (xs := xs) h
  | .tuple xs, h => ils_show hb hb2 (xs := xs) h
theorem ils_show {b : Nat} (hb : 0 < b) (hb2 : b ≤ 470) : ∀ {xs : List PyData}, ils b xs = true → PyData.showableAll xs = true
  | [], _ => rfl
  | x :: xs, h => by
    have h' : (il b x && ils b xs) = true := h
    rw [Bool.and_eq_true] at h'
    show (PyData.showable x && PyData.showableAll xs) = true
    rw [il_show hb hb2 h'.1, ils_show hb hb2 h'.2]
    rfl
end
mutual
theorem eqv_self {b : Nat} : ∀ {d : PyData}, il b d = true → PyData.eqv d d = true
  | .int i, _ => by simp [PyData.eqv]
  | .none, _ => rfl
  | .bool _, _ => by simp [PyData.eqv]
  | .str x, h => by simp [PyData.eqv]
  | .dict _, h => by cases h
  | .list xs, h => eqvAll_self (xs := xs) h
  | .tuple xs, h => eqvAll_self (xs := xs) h
theorem eqvAll_self {b : Nat} : ∀ {xs : List PyData}, ils b xs = true → PyData.eqvAll xs xs = true
  | [], _ => rfl
  | x :: xs, h => by
    have h' : (il b x && ils b xs) = true := h
    rw [Bool.and_eq_true] at h'
    show (PyData.eqv x x && PyData.eqvAll xs xs) = true
    rw [eqv_self h'.1, eqvAll_self h'.2]
    rfl
end
theorem ils_app {b : Nat} : ∀ {xs : List PyData}, (∀ x ∈ xs, il b x = true) → ils b xs = true
  | [], _ => rfl
  | x :: xs, h => by
    show (il b x && ils b xs) = true
    rw [h x List.mem_cons_self, ils_app fun y hy => h y (List.mem_cons_of_mem _ hy)]
    rfl
theorem dep_all {k : Nat} : ∀ {xs : List PyData}, (∀ x ∈ xs, x.depth ≤ k) → PyData.depthAll xs ≤ k
  | [], _ => Nat.zero_le _
  | x :: xs, h => by
    show max x.depth (PyData.depthAll xs) ≤ k
    exact Nat.max_le.mpr ⟨h x List.mem_cons_self, dep_all fun y hy => h y (List.mem_cons_of_mem _ hy)⟩
theorem wt_all {k : Nat} : ∀ {xs : List PyData}, (∀ x ∈ xs, x.weight ≤ k) → PyData.weightAll xs ≤ xs.length * (k + 1)
  | [], _ => Nat.zero_le _
  | x :: xs, h => by
    have h1 := h x List.mem_cons_self
    have h2 := wt_all fun y hy => h y (List.mem_cons_of_mem _ hy)
    show x.weight + 1 + PyData.weightAll xs ≤ (xs.length + 1) * (k + 1)
    rw [Nat.add_mul]
    omega
theorem wt_int {b : Nat} {i : Int} (h : i.natAbs < 10 ^ b) (hb : 0 < b) : (PyData.int i).weight ≤ 4 * b := by
  show (if i == 0 then 0 else i.natAbs.log2 + 1) ≤ 4 * b
  have := log_of h hb
  split <;> omega
/-- a list or a tuple that is equal to itself and shown -/
theorem nice {d : D} {p : PyData} {b w : Nat} (hd : toPy d = some p) (hs : (∃ xs, d = .tup xs) ∨ ∃ xs, d = .lst xs) (hl : il b p = true) (hb : 7 ≤ b) (hb2 : b ≤ 470) (hdp : p.depth ≤ 60) (hw : p.weight ≤ w) (hz : (b + 3) * w + (b + 1) ≤ 1000000) : eqD d d = some true ∧ ∃ z, reprD d = some z := by
  have hsh : SeqAt.shaped p = true := by
    unfold SeqAt.shaped
    rw [il_lay hl, decide_eq_true (by omega)]
    rfl
  constructor
  · have e : eqD d d = (match toPy d, toPy d with
      | some p, some q => if SeqAt.shaped p = true ∧ SeqAt.shaped q = true then some (PyData.eqv p q) else none
      | _, _ => none) := by
      rcases hs with ⟨xs, rfl⟩ | ⟨xs, rfl⟩ <;> rfl
    rw [e, hd]
    dsimp only
    rw [if_pos ⟨hsh, hsh⟩, eqv_self hl]
  · have h1 := PyData.shown_le (b + 1) (by omega) p (PyData.leavesShort_of_canLay0 (b + 1) p (il_lay hl) (il_short (by omega) hl))
    have h2 : (b + 1 + 2) * p.weight ≤ (b + 3) * w := Nat.mul_le_mul (by omega) hw
    have h3 : p.shown.length ≤ 1000000 := by omega
    refine ⟨p.shown, ?_⟩
    unfold reprD
    rw [hd]
    dsimp only
    rw [if_pos ⟨il_show (by omega) hb2 hl, PyData.hasDict_of_canLay p (il_lay hl), hdp, h3⟩]
end DV


set_option maxRecDepth 100000
set_option maxHeartbeats 0
/-! P69: the program's codes and derivations, printed by gen.py. -/
namespace P69
open PySem PySem.Spec PyProof.Rows L2 DV
def top (i : Nat) : Stmt := PySem.Challenge.pw_alsoandnot_k69_machine_counts_by_length.main.body.getD i (.Pass ⟨0, 0, 0, 0⟩)
/-- 0 abc, 1 signs, 2 sign -/
def c__law_outside : SCs := (.cons (.set 1 (.cst (.str "abcdefghijklmnopqrstuvwxyz0123456789(),;=.+-*:"))) (.cons (.ret (.fr (.lci [2] (.seq (.var 1)) (.name 2) (.op .notIn (.s 2 (.s 0 .nil))) (.var 2)))) .nil))
def f__law_outside : FnC := ⟨[.fz], 3, false, c__law_outside⟩
/-- 0 pool, 1 many, 2 cell -/
def c__law_draw : SCs := (.cons (.ite (.op .eq (.s 0 (.e (.fr (.lst .nil)) .nil))) (.cons (.ret (.cst (.int 0))) .nil) .nil) (.cons (.set 2 (.mut .pop 0 .nil)) (.cons (.ite (.op .ge (.s 2 (.s 1 .nil))) (.cons (.expr (.mut .append 0 (.e (.op .fdiv (.s 2 (.s 1 .nil))) .nil))) .nil) .nil) (.cons (.ret (.op .mod (.e (.op .int (.s 2 .nil)) (.s 1 .nil)))) .nil))))
def f__law_draw : FnC := ⟨[.io, .fz], 3, false, c__law_draw⟩
/-- 0 pool, 1 many, 2 abc, 3 k, 4 left -/
def c__law_pick_letters : SCs := (.cons (.set 2 (.cst (.str ""))) (.cons (.for_ (.rng1 (.var 1)) (.name 3) (.cons (.set 4 (.call 0 (.e (.var 2) .nil))) (.cons (.set 2 (.op .add (.s 2 (.e (.op .idx (.s 4 (.e (.op .mod (.e (.op .int (.e (.op .add (.e (.call 1 (.s 0 (.e (.op .len (.s 4 .nil)) .nil))) (.e (.op .mul (.e (.cst (.int 31)) (.s 3 .nil))) .nil))) .nil)) (.e (.op .len (.s 4 .nil)) .nil))) .nil))) .nil)))) .nil))) (.cons (.ret (.var 2)) .nil)))
def f__law_pick_letters : FnC := ⟨[.io, .fz], 5, false, c__law_pick_letters⟩
/-- 0 pool, 1 abc, 2 n, 3 shift, 4 steps, 5 p, 6 menu, 7 words, 8 row, 9 k -/
def c__law_build : SCs := (.cons (.setO 4 (.lst .nil)) (.cons (.for_ (.rng1 (.var 2)) (.name 5) (.cons (.setO 8 (.lst .nil)) (.cons (.for_ (.rng1 (.op .len (.s 1 .nil))) (.name 9) (.cons (.expr (.mut .append 8 (.e (.op .mod (.e (.op .int (.e (.op .add (.e (.op .add (.e (.op .add (.e (.call 1 (.s 0 (.e (.var 2) .nil))) (.e (.op .mul (.s 5 (.e (.op .add (.e (.cst (.int 1)) (.s 3 .nil))) .nil))) .nil))) (.s 9 .nil))) (.e (.cst (.int 1)) .nil))) .nil)) (.s 2 .nil))) .nil))) .nil)) (.cons (.expr (.mut .append 4 (.e (.var 8) .nil))) .nil)))) (.cons (.set 6 (.fr (.lst (.e (.cst (.str "hung")) (.e (.cst (.str "in")) (.e (.cst (.str "out")) .nil)))))) (.cons (.setO 7 (.lst .nil)) (.cons (.for_ (.rng1 (.var 2)) (.name 5) (.cons (.expr (.mut .append 7 (.e (.op .idx (.s 6 (.e (.op .mod (.e (.op .int (.e (.op .add (.e (.op .add (.e (.call 1 (.s 0 (.e (.cst (.int 3)) .nil))) (.s 5 .nil))) (.s 3 .nil))) .nil)) (.e (.cst (.int 3)) .nil))) .nil))) .nil))) .nil)) (.cons (.ret (.fr (.lst (.e (.var 1) (.e (.op .mod (.e (.op .int (.e (.op .add (.e (.call 1 (.s 0 (.e (.var 2) .nil))) (.e (.cst (.int 1)) .nil))) .nil)) (.s 2 .nil))) (.e (.var 4) (.e (.var 7) .nil))))))) .nil))))))
def f__law_build : FnC := ⟨[.io, .fz, .fz, .fz], 10, false, c__law_build⟩
/-- 0 pool, 1 great, 2 many, 3 n, 4 abc, 5 first -/
def c__law_two : SCs := (.cons (.set 2 (.op .idx (.e (.fr (.lst (.e (.cst (.int 2)) (.e (.cst (.int 3)) (.e (.cst (.int 1)) .nil))))) (.e (.call 1 (.s 0 (.e (.cst (.int 3)) .nil))) .nil)))) (.cons (.set 3 (.op .idx (.e (.fr (.lst (.e (.cst (.int 3)) (.e (.cst (.int 4)) (.e (.cst (.int 2)) (.e (.cst (.int 5)) (.e (.cst (.int 6)) (.e (.cst (.int 1)) .nil)))))))) (.e (.call 1 (.s 0 (.e (.cst (.int 6)) .nil))) .nil)))) (.cons (.ite (.var 1) (.cons (.set 2 (.op .sub (.e (.cst (.int 6)) (.e (.call 1 (.s 0 (.e (.cst (.int 6)) .nil))) .nil)))) (.cons (.set 3 (.op .sub (.e (.cst (.int 60)) (.e (.call 1 (.s 0 (.e (.cst (.int 60)) .nil))) .nil)))) .nil)) .nil) (.cons (.set 4 (.call 2 (.s 0 (.e (.var 2) .nil)))) (.cons (.set 5 (.call 3 (.s 0 (.e (.var 4) (.e (.var 3) (.e (.cst (.int 0)) .nil)))))) (.cons (.ret (.fr (.lst (.e (.var 5) (.e (.call 3 (.s 0 (.e (.var 4) (.e (.op .idx (.e (.fr (.lst (.e (.cst (.int 4)) (.e (.cst (.int 2)) (.e (.cst (.int 5)) (.e (.cst (.int 3)) (.e (.cst (.int 1)) (.e (.cst (.int 6)) .nil)))))))) (.e (.call 1 (.s 0 (.e (.cst (.int 6)) .nil))) .nil))) (.e (.cst (.int 1)) .nil))))) .nil))))) .nil))))))
def f__law_two : FnC := ⟨[.io, .fz], 6, false, c__law_two⟩
/-- 0 alphabet, 1 allowed, 2 at, 3 char -/
def c_alphabet_fault : SCs := (.cons (.ite (.op .not (.e (.op .tru (.s 0 .nil)) .nil)) (.cons (.ret (.cst (.int 0))) .nil) .nil) (.cons (.for_ (.enum (.var 0)) (.tup [2, 3]) (.cons (.ite (.or (.op .eq (.s 2 (.e (.glb 2) .nil))) (.or (.op .notIn (.s 3 (.s 1 .nil))) (.op .isIn (.s 3 (.e (.op (.sl false true) (.s 0 (.s 2 .nil))) .nil))))) (.cons (.ret (.var 2)) .nil) .nil) .nil)) (.cons (.ret (.cst .non)) .nil)))
def f_alphabet_fault : FnC := ⟨[.fz, .fz], 4, false, c_alphabet_fault⟩
/-- 0 alphabet, 1 at -/
def c_check_alphabet : SCs := (.cons (.set 1 (.call 5 (.e (.var 0) (.e (.glb 1) .nil)))) (.cons (.ite (.op .notN (.s 1 .nil)) (.cons .never .nil) .nil) .nil))
def f_check_alphabet : FnC := ⟨[.fz], 2, false, c_check_alphabet⟩
/-- 0 state, 1 count -/
def c_check_state : SCs := (.cons (.ite (.op .not (.e (.chain .le .lt (.cst (.int 0)) (.var 0) (.var 1)) .nil)) (.cons .never .nil) .nil) .nil)
def f_check_state : FnC := ⟨[.fz, .fz], 2, false, c_check_state⟩
/-- 0 given, 1 count, 2 state -/
def c_checked_states : SCs := (.cons (.for_ (.seq (.var 0)) (.name 2) (.cons (.expr (.call 7 (.e (.var 2) (.e (.var 1) .nil)))) .nil)) (.cons (.ret (.op .tuple (.s 0 .nil))) .nil))
def f_checked_states : FnC := ⟨[.fz, .fz], 3, false, c_checked_states⟩
/-- 0 steps, 1 count, 2 width, 3 table, 4 row -/
def c_checked_steps : SCs := (.cons (.ite (.op .ne (.e (.op .len (.s 0 .nil)) (.s 1 .nil))) (.cons .never .nil) .nil) (.cons (.setO 3 (.lst .nil)) (.cons (.for_ (.seq (.var 0)) (.name 4) (.cons (.ite (.op .ne (.e (.op .len (.s 4 .nil)) (.s 2 .nil))) (.cons .never .nil) .nil) (.cons (.expr (.mut .append 3 (.e (.call 8 (.e (.var 4) (.e (.var 1) .nil))) .nil))) .nil))) (.cons (.ret (.op .tuple (.s 3 .nil))) .nil))))
def f_checked_steps : FnC := ⟨[.fz, .fz, .fz], 5, false, c_checked_steps⟩
/-- 0 verdict -/
def c_check_verdict : SCs := (.cons (.ite (.op .notIn (.s 0 (.e (.glb 0) .nil))) (.cons .never .nil) .nil) .nil)
def f_check_verdict : FnC := ⟨[.fz], 1, false, c_check_verdict⟩
/-- 0 verdicts, 1 verdict -/
def c_checked_verdicts : SCs := (.cons (.for_ (.seq (.var 0)) (.name 1) (.cons (.expr (.call 10 (.e (.var 1) .nil))) .nil)) (.cons (.ret (.op .tuple (.s 0 .nil))) .nil))
def f_checked_verdicts : FnC := ⟨[.fz], 2, false, c_checked_verdicts⟩
/-- 0 self, 1 alphabet, 2 start, 3 steps, 4 verdicts, 5 kept, 6 told -/
def c_Machine___init__ : SCs := (.cons (.expr (.call 6 (.e (.var 1) .nil))) (.cons (.expr (.call 7 (.e (.var 2) (.e (.op .len (.s 4 .nil)) .nil)))) (.cons (.set 5 (.call 9 (.e (.var 3) (.e (.op .len (.s 4 .nil)) (.e (.op .len (.s 1 .nil)) .nil))))) (.cons (.set 6 (.call 11 (.e (.var 4) .nil))) (.cons (.fset 0 "alphabet" (.var 1)) (.cons (.fset 0 "start" (.var 2)) (.cons (.fset 0 "steps" (.var 5)) (.cons (.fset 0 "verdicts" (.var 6)) .nil))))))))
def f_Machine___init__ : FnC := ⟨[.io, .fz, .fz, .fz, .fz], 7, false, c_Machine___init__⟩
/-- 0 given, 1 abc, 2 start, 3 steps, 4 words, 5 row -/
def c__law_object : SCs := (.cons (.unp true [1, 2, 3, 4] (.var 0)) (.cons (.ret (.new 0 (.e (.var 1) (.e (.var 2) (.e (.fr (.lc [5] (.seq (.var 3)) (.name 5) (.fr (.op .list (.s 5 .nil))))) (.e (.fr (.op .list (.s 4 .nil))) .nil)))))) .nil))
def f__law_object : FnC := ⟨[.fz], 6, false, c__law_object⟩
/-- 0 told, 1 due -/
def c__law_same : SCs := (.cons (.ret (.and (.op .eq (.s 0 (.s 1 .nil))) (.op .eq (.e (.op .repr (.s 0 .nil)) (.e (.op .repr (.s 1 .nil)) .nil))))) .nil)
def f__law_same : FnC := ⟨[.fz, .fz], 2, false, c__law_same⟩
/-- 0 one, 1 given, 2 due, 3 abc, 4 start, 5 steps, 6 words, 7 row -/
def c__law_stays : SCs := (.cons (.unp true [3, 4, 5, 6] (.var 1)) (.cons (.set 2 (.tup (.e (.var 3) (.e (.var 4) (.e (.op .tuple (.e (.fr (.lc [7] (.seq (.var 5)) (.name 7) (.op .tuple (.s 7 .nil)))) .nil)) (.e (.op .tuple (.s 6 .nil)) .nil)))))) (.cons (.ret (.call 14 (.e (.tup (.e (.op (.fld "alphabet") (.s 0 .nil)) (.e (.op (.fld "start") (.s 0 .nil)) (.e (.op (.fld "steps") (.s 0 .nil)) (.e (.op (.fld "verdicts") (.s 0 .nil)) .nil))))) (.e (.var 2) .nil)))) .nil)))
def f__law_stays : FnC := ⟨[.fz, .fz], 8, false, c__law_stays⟩
/-- 0 self -/
def c_Machine___len__ : SCs := (.cons (.ret (.op .len (.e (.op (.fld "verdicts") (.s 0 .nil)) .nil))) .nil)
def f_Machine___len__ : FnC := ⟨[.fz], 1, false, c_Machine___len__⟩
/-- 0 word, 1 reached, 2 verdicts, 3 many, 4 verdict -/
def c__sum_of : SCs := (.cons (.ret (.op .sum (.e (.fr (.lci [3, 4] (.zip (.var 1) (.var 2)) (.tup [3, 4]) (.op .eq (.s 4 (.s 0 .nil))) (.var 3))) .nil))) .nil)
def f__sum_of : FnC := ⟨[.fz, .fz, .fz], 5, false, c__sum_of⟩
/-- 0 machine, 1 length, 2 reached, 3 _, 4 following, 5 many, 6 row, 7 state, 8 word -/
def c_count_texts : SCs := (.cons (.setO 2 (.op .rep (.e (.fr (.lst (.e (.cst (.int 0)) .nil))) (.e (.olen (.var 0)) .nil)))) (.cons (.put 2 (.op (.fld "start") (.s 0 .nil)) (.cst (.int 1))) (.cons (.for_ (.rng1 (.var 1)) (.name 3) (.cons (.setO 4 (.op .rep (.e (.fr (.lst (.e (.cst (.int 0)) .nil))) (.e (.olen (.var 0)) .nil)))) (.cons (.for_ (.zip (.var 2) (.op (.fld "steps") (.s 0 .nil))) (.tup [5, 6]) (.cons (.for_ (.seq (.var 6)) (.name 7) (.cons (.augI 4 .add (.var 7) (.var 5)) .nil)) .nil)) (.cons (.set 2 (.var 4)) .nil)))) (.cons (.ret (.op .tuple (.e (.fr (.lc [8] (.seq (.glb 0)) (.name 8) (.call 17 (.e (.var 8) (.e (.var 2) (.e (.op (.fld "verdicts") (.s 0 .nil)) .nil)))))) .nil))) .nil))))
def f_count_texts : FnC := ⟨[.fz, .fz], 9, false, c_count_texts⟩
/-- 0 given, 1 length, 2 states, 3 turn, 4 told, 5 abc, 6 start, 7 steps, 8 words, 9 reached, 10 p -/
def c__law_listed : SCs := (.cons (.unp true [5, 6, 7, 8] (.var 0)) (.cons (.set 2 (.fr (.lst (.e (.var 6) .nil)))) (.cons (.for_ (.rng1 (.var 1)) (.name 3) (.cons (.setO 9 (.lst .nil)) (.cons (.for_ (.seq (.var 2)) (.name 10) (.cons (.expr (.mut .extend 9 (.e (.op .idx (.s 7 (.s 10 .nil))) .nil))) .nil)) (.cons (.set 2 (.fr (.op .list (.s 9 .nil)))) .nil)))) (.cons (.setO 4 (.lc [10] (.seq (.var 2)) (.name 10) (.op .idx (.s 8 (.s 10 .nil))))) (.cons (.ret (.tup (.e (.op .cnt (.s 4 (.e (.cst (.str "in")) .nil))) (.e (.op .cnt (.s 4 (.e (.cst (.str "hung")) .nil))) (.e (.op .cnt (.s 4 (.e (.cst (.str "out")) .nil))) .nil))))) .nil)))))
def f__law_listed : FnC := ⟨[.fz, .fz], 11, false, c__law_listed⟩
/-- 0 given, 1 word, 2 length, 3 ways, 4 turn, 5 abc, 6 start, 7 steps, 8 words, 9 longer, 10 row, 11 told, 12 to -/
def c__law_ways : SCs := (.cons (.unp true [5, 6, 7, 8] (.var 0)) (.cons (.setO 3 (.lc [11] (.seq (.var 8)) (.name 11) (.op .int (.e (.op .eq (.s 11 (.s 1 .nil))) .nil)))) (.cons (.for_ (.rng1 (.var 2)) (.name 4) (.cons (.setO 9 (.lst .nil)) (.cons (.for_ (.seq (.var 7)) (.name 10) (.cons (.expr (.mut .append 9 (.e (.op .sum (.e (.fr (.lc [12] (.seq (.var 10)) (.name 12) (.op .idx (.s 3 (.s 12 .nil))))) .nil)) .nil))) .nil)) (.cons (.set 3 (.var 9)) .nil)))) (.cons (.ret (.op .idx (.s 3 (.s 6 .nil)))) .nil))))
def f__law_ways : FnC := ⟨[.fz, .fz, .fz], 13, false, c__law_ways⟩
/-- 0 given, 1 length, 2 word -/
def c__law_sums : SCs := (.cons (.ret (.op .tuple (.e (.fr (.lc [2] (.seq (.fr (.lst (.e (.cst (.str "in")) (.e (.cst (.str "hung")) (.e (.cst (.str "out")) .nil)))))) (.name 2) (.call 20 (.e (.var 0) (.e (.var 2) (.e (.var 1) .nil)))))) .nil))) .nil)
def f__law_sums : FnC := ⟨[.fz, .fz], 3, false, c__law_sums⟩
/-- 0 script, 1 pool, 2 great, 3 lengths, 4 one, 5 two, 6 far, 7 size, 8 k, 9 first, 10 second, 11 told, 12 due, 13 cell -/
def c_law : SCs := (.cons (.setO 0 (.lc [13] (.seq (.fr (.op (.sl false true) (.s 0 (.e (.cst (.int 63)) .nil))))) (.name 13) (.op .int (.s 13 .nil)))) (.cons (.setO 1 (.op .rev (.e (.fr (.lc [13] (.seq (.var 0)) (.name 13) (.op .mod (.e (.op .abs (.s 13 .nil)) (.e (.op .pow (.e (.cst (.int 10)) (.e (.cst (.int 60)) .nil))) .nil))))) .nil))) (.cons (.set 2 (.op .eq (.e (.call 1 (.s 1 (.e (.cst (.int 8)) .nil))) (.e (.cst (.int 5)) .nil)))) (.cons (.set 3 (.fr (.lst (.e (.op .add (.e (.cst (.int 6)) (.e (.call 1 (.s 1 (.e (.cst (.int 35)) .nil))) .nil))) .nil)))) (.cons (.ite (.op .eq (.e (.call 1 (.s 1 (.e (.cst (.int 8)) .nil))) (.e (.cst (.int 6)) .nil))) (.cons (.set 3 (.fr (.lst (.e (.cst (.int 200)) (.e (.op .sub (.e (.cst (.int 199)) (.e (.call 1 (.s 1 (.e (.cst (.int 159)) .nil))) .nil))) .nil))))) .nil) .nil) (.cons (.unp true [9, 10] (.call 4 (.s 1 (.e (.var 2) .nil)))) (.cons (.set 4 (.call 13 (.e (.var 9) .nil))) (.cons (.set 5 (.call 13 (.e (.var 10) .nil))) (.cons (.setO 6 (.lst .nil)) (.cons (.for_ (.seq (.var 3)) (.name 7) (.cons (.expr (.mut .append 6 (.e (.tup (.e (.call 21 (.e (.var 9) (.e (.var 7) .nil))) (.e (.call 21 (.e (.var 10) (.e (.var 7) .nil))) .nil))) .nil))) .nil)) (.cons (.for_ (.rng1 (.op .len (.s 3 .nil))) (.name 8) (.cons (.set 11 (.tup (.e (.call 18 (.e (.var 4) (.e (.op .idx (.s 3 (.s 8 .nil))) .nil))) (.e (.call 18 (.e (.var 5) (.e (.op .idx (.s 3 (.s 8 .nil))) .nil))) .nil)))) (.cons (.ite (.op .not (.e (.call 14 (.e (.var 11) (.e (.op .idx (.s 6 (.s 8 .nil))) .nil))) .nil)) (.cons (.ret (.cst (.bl false))) .nil) .nil) .nil))) (.cons (.for_ (.rng1 (.ifx (.var 2) (.cst (.int 4)) (.cst (.int 6)))) (.name 7) (.cons (.set 12 (.tup (.e (.call 19 (.e (.var 9) (.e (.var 7) .nil))) (.e (.call 19 (.e (.var 10) (.e (.var 7) .nil))) .nil)))) (.cons (.set 11 (.tup (.e (.call 18 (.e (.var 4) (.e (.var 7) .nil))) (.e (.call 18 (.e (.var 5) (.e (.var 7) .nil))) .nil)))) (.cons (.ite (.op .not (.e (.call 14 (.e (.var 11) (.e (.var 12) .nil))) .nil)) (.cons (.ret (.cst (.bl false))) .nil) .nil) .nil)))) (.cons (.for_ (.rng1 (.op .len (.s 3 .nil))) (.name 8) (.cons (.set 11 (.tup (.e (.call 18 (.e (.var 4) (.e (.op .idx (.s 3 (.s 8 .nil))) .nil))) (.e (.call 18 (.e (.var 5) (.e (.op .idx (.s 3 (.s 8 .nil))) .nil))) .nil)))) (.cons (.ite (.op .not (.e (.call 14 (.e (.var 11) (.e (.op .idx (.s 6 (.s 8 .nil))) .nil))) .nil)) (.cons (.ret (.cst (.bl false))) .nil) .nil) .nil))) (.cons (.ret (.and (.call 15 (.e (.var 4) (.e (.var 9) .nil))) (.call 15 (.e (.var 5) (.e (.var 10) .nil))))) .nil))))))))))))))
def f_law : FnC := ⟨[.fz], 14, false, c_law⟩
def glos : Nat → Option D
  | 0 => some (.wt [.str "in", .str "hung", .str "out"])
  | 1 => some (.str "abcdefghijklmnopqrstuvwxyz0123456789(),;=.+-*:")
  | 2 => some (.int 6)
  | _ => none
def code : Nat → Option FnC
  | 0 => some f__law_outside
  | 1 => some f__law_draw
  | 2 => some f__law_pick_letters
  | 3 => some f__law_build
  | 4 => some f__law_two
  | 5 => some f_alphabet_fault
  | 6 => some f_check_alphabet
  | 7 => some f_check_state
  | 8 => some f_checked_states
  | 9 => some f_checked_steps
  | 10 => some f_check_verdict
  | 11 => some f_checked_verdicts
  | 12 => some f_Machine___init__
  | 13 => some f__law_object
  | 14 => some f__law_same
  | 15 => some f__law_stays
  | 16 => some f_Machine___len__
  | 17 => some f__sum_of
  | 18 => some f_count_texts
  | 19 => some f__law_listed
  | 20 => some f__law_ways
  | 21 => some f__law_sums
  | 22 => some f_law
  | _ => none
def meths (c : Nat) (m : Str) : Option Nat := if c = 0 ∧ m = ("__len__" : Str) then some 16 else none
def inits : Nat → Option Nat
  | 0 => some 12
  | _ => none
def attrs (c : Nat) (f : Str) : Bool := (decide (c = 0) && (["alphabet", "start", "steps", "verdicts"] : List Str).contains f)
def T : Tab := ⟨code, meths, inits, attrs, glos⟩
def ca (K : PySem.W.Frag) : Nat → Addr
  | 0 => He.ga K "Machine"
  | _ => 0
def defs : List ((Str × Option Str) × List Str) := [(("_law_outside", none), ["abc"]), (("_law_draw", none), ["pool", "many"]), (("_law_pick_letters", none), ["pool", "many"]), (("_law_build", none), ["pool", "abc", "n", "shift"]), (("_law_two", none), ["pool", "great"]), (("alphabet_fault", none), ["alphabet", "allowed"]), (("check_alphabet", none), ["alphabet"]), (("check_state", none), ["state", "count"]), (("checked_states", none), ["given", "count"]), (("checked_steps", none), ["steps", "count", "width"]), (("check_verdict", none), ["verdict"]), (("checked_verdicts", none), ["verdicts"]), (("Machine", some "__init__"), ["self", "alphabet", "start", "steps", "verdicts"]), (("_law_object", none), ["given"]), (("_law_same", none), ["told", "due"]), (("_law_stays", none), ["one", "given"]), (("Machine", some "__len__"), ["self"]), (("_sum_of", none), ["word", "reached", "verdicts"]), (("count_texts", none), ["machine", "length"]), (("_law_listed", none), ["given", "length"]), (("_law_ways", none), ["given", "word", "length"]), (("_law_sums", none), ["given", "length"]), (("law", none), ["script"])]
/-- what is known of the text behind the top -/
structure Fx (K : PySem.W.Frag) (mg : Str → Option Value) : Prop where
  bi : BI mg
  g__law_outside : mg "_law_outside" = some (.ref (He.ga K "_law_outside"))
  g__law_draw : mg "_law_draw" = some (.ref (He.ga K "_law_draw"))
  g__law_pick_letters : mg "_law_pick_letters" = some (.ref (He.ga K "_law_pick_letters"))
  g__law_build : mg "_law_build" = some (.ref (He.ga K "_law_build"))
  g__law_two : mg "_law_two" = some (.ref (He.ga K "_law_two"))
  g_alphabet_fault : mg "alphabet_fault" = some (.ref (He.ga K "alphabet_fault"))
  g_check_alphabet : mg "check_alphabet" = some (.ref (He.ga K "check_alphabet"))
  g_check_state : mg "check_state" = some (.ref (He.ga K "check_state"))
  g_checked_states : mg "checked_states" = some (.ref (He.ga K "checked_states"))
  g_checked_steps : mg "checked_steps" = some (.ref (He.ga K "checked_steps"))
  g_check_verdict : mg "check_verdict" = some (.ref (He.ga K "check_verdict"))
  g_checked_verdicts : mg "checked_verdicts" = some (.ref (He.ga K "checked_verdicts"))
  g__law_object : mg "_law_object" = some (.ref (He.ga K "_law_object"))
  g__law_same : mg "_law_same" = some (.ref (He.ga K "_law_same"))
  g__law_stays : mg "_law_stays" = some (.ref (He.ga K "_law_stays"))
  g__sum_of : mg "_sum_of" = some (.ref (He.ga K "_sum_of"))
  g_count_texts : mg "count_texts" = some (.ref (He.ga K "count_texts"))
  g__law_listed : mg "_law_listed" = some (.ref (He.ga K "_law_listed"))
  g__law_ways : mg "_law_ways" = some (.ref (He.ga K "_law_ways"))
  g__law_sums : mg "_law_sums" = some (.ref (He.ga K "_law_sums"))
  g_Machine : mg "Machine" = some (.ref (He.ga K "Machine"))
  cls_Machine : Cls K (He.ga K "Machine")
  mk_Machine : Mk K (He.ga K "Machine") (He.ma K (He.ga K "Machine") "__init__")
  na_Machine_alphabet : NoAttr K (He.ga K "Machine") "alphabet"
  na_Machine_start : NoAttr K (He.ga K "Machine") "start"
  na_Machine_steps : NoAttr K (He.ga K "Machine") "steps"
  na_Machine_verdicts : NoAttr K (He.ga K "Machine") "verdicts"
  me_Machine___len__ : Meth K (He.ga K "Machine") "__len__" (He.ma K (He.ga K "Machine") "__len__")
  k_WORDS : mg "WORDS" = some (.ref (He.ga K "WORDS")) ∧ ∀ H, SqT K H (He.ga K "WORDS") [.str "in", .str "hung", .str "out"]
  k_LETTERS : ∃ t, mg "LETTERS" = some (.str "abcdefghijklmnopqrstuvwxyz0123456789(),;=.+-*:" t)
  k_LARGEST_ALPHABET : ∃ t, mg "LARGEST_ALPHABET" = some (.int 6 t)
  d__law_outside : ∃ fd, FunD K "_law_outside" "_law_outside" (defArgs (top 35)) (defBody (top 35)) (defScope (top 35)) [] [] (He.fAd K ("_law_outside", none)) fd
  d__law_draw : ∃ fd, FunD K "_law_draw" "_law_draw" (defArgs (top 33)) (defBody (top 33)) (defScope (top 33)) [] [] (He.fAd K ("_law_draw", none)) fd
  d__law_pick_letters : ∃ fd, FunD K "_law_pick_letters" "_law_pick_letters" (defArgs (top 36)) (defBody (top 36)) (defScope (top 36)) [] [] (He.fAd K ("_law_pick_letters", none)) fd
  d__law_build : ∃ fd, FunD K "_law_build" "_law_build" (defArgs (top 37)) (defBody (top 37)) (defScope (top 37)) [] [] (He.fAd K ("_law_build", none)) fd
  d__law_two : ∃ fd, FunD K "_law_two" "_law_two" (defArgs (top 43)) (defBody (top 43)) (defScope (top 43)) [] [] (He.fAd K ("_law_two", none)) fd
  d_alphabet_fault : ∃ fd, FunD K "alphabet_fault" "alphabet_fault" (defArgs (top 23)) (defBody (top 23)) (defScope (top 23)) [] [] (He.fAd K ("alphabet_fault", none)) fd
  d_check_alphabet : ∃ fd, FunD K "check_alphabet" "check_alphabet" (defArgs (top 24)) (defBody (top 24)) (defScope (top 24)) [] [] (He.fAd K ("check_alphabet", none)) fd
  d_check_state : ∃ fd, FunD K "check_state" "check_state" (defArgs (top 27)) (defBody (top 27)) (defScope (top 27)) [] [] (He.fAd K ("check_state", none)) fd
  d_checked_states : ∃ fd, FunD K "checked_states" "checked_states" (defArgs (top 28)) (defBody (top 28)) (defScope (top 28)) [] [] (He.fAd K ("checked_states", none)) fd
  d_checked_steps : ∃ fd, FunD K "checked_steps" "checked_steps" (defArgs (top 29)) (defBody (top 29)) (defScope (top 29)) [] [] (He.fAd K ("checked_steps", none)) fd
  d_check_verdict : ∃ fd, FunD K "check_verdict" "check_verdict" (defArgs (top 11)) (defBody (top 11)) (defScope (top 11)) [] [] (He.fAd K ("check_verdict", none)) fd
  d_checked_verdicts : ∃ fd, FunD K "checked_verdicts" "checked_verdicts" (defArgs (top 30)) (defBody (top 30)) (defScope (top 30)) [] [] (He.fAd K ("checked_verdicts", none)) fd
  d_Machine___init__ : ∃ fd, FunD K "__init__" "Machine.__init__" (defArgs (inClass (top 26) 0)) (defBody (inClass (top 26) 0)) (defScope (inClass (top 26) 0)) [] [] (He.fAd K ("Machine", some "__init__")) fd
  d__law_object : ∃ fd, FunD K "_law_object" "_law_object" (defArgs (top 38)) (defBody (top 38)) (defScope (top 38)) [] [] (He.fAd K ("_law_object", none)) fd
  d__law_same : ∃ fd, FunD K "_law_same" "_law_same" (defArgs (top 34)) (defBody (top 34)) (defScope (top 34)) [] [] (He.fAd K ("_law_same", none)) fd
  d__law_stays : ∃ fd, FunD K "_law_stays" "_law_stays" (defArgs (top 39)) (defBody (top 39)) (defScope (top 39)) [] [] (He.fAd K ("_law_stays", none)) fd
  d_Machine___len__ : ∃ fd, FunD K "__len__" "Machine.__len__" (defArgs (inClass (top 26) 6)) (defBody (inClass (top 26) 6)) (defScope (inClass (top 26) 6)) [] [] (He.fAd K ("Machine", some "__len__")) fd
  d__sum_of : ∃ fd, FunD K "_sum_of" "_sum_of" (defArgs (top 18)) (defBody (top 18)) (defScope (top 18)) [] [] (He.fAd K ("_sum_of", none)) fd
  d_count_texts : ∃ fd, FunD K "count_texts" "count_texts" (defArgs (top 17)) (defBody (top 17)) (defScope (top 17)) [] [] (He.fAd K ("count_texts", none)) fd
  d__law_listed : ∃ fd, FunD K "_law_listed" "_law_listed" (defArgs (top 40)) (defBody (top 40)) (defScope (top 40)) [] [] (He.fAd K ("_law_listed", none)) fd
  d__law_ways : ∃ fd, FunD K "_law_ways" "_law_ways" (defArgs (top 41)) (defBody (top 41)) (defScope (top 41)) [] [] (He.fAd K ("_law_ways", none)) fd
  d__law_sums : ∃ fd, FunD K "_law_sums" "_law_sums" (defArgs (top 42)) (defBody (top 42)) (defScope (top 42)) [] [] (He.fAd K ("_law_sums", none)) fd
  d_law : ∃ fd, FunD K "law" "law" (defArgs (top 44)) (defBody (top 44)) (defScope (top 44)) [] [] (He.fAd K ("law", none)) fd
section
variable {K : PySem.W.Frag} {mg : Str → Option Value}
theorem attr_ok (Z : Fx K mg) : AttrOk K (ca K) T := fun c f h => by
  have h' : attrs c f = true := h
  unfold attrs at h'
  rw [Bool.and_eq_true] at h'
  obtain ⟨h1, h2⟩ := h'
  obtain rfl := of_decide_eq_true h1
  refine ⟨Z.cls_Machine, ?_⟩
  have h3 := List.contains_iff_mem.mp h2
  simp only [List.mem_cons, List.not_mem_nil, or_false] at h3
  rcases h3 with e | e | e | e
  · subst e; exact Z.na_Machine_alphabet
  · subst e; exact Z.na_Machine_start
  · subst e; exact Z.na_Machine_steps
  · subst e; exact Z.na_Machine_verdicts
end
section
variable {X : Cx} {W : WX} {calls : Calls} {k : Nat}
theorem k_WORDS {pos : Pos} (Z : Fx X.K X.mg) (hg : Gl X "WORDS" := by rfl) : DE X W (ca X.K) T calls (.Name "WORDS" pos) (.glb 0) := de_glb (v := .ref _) hg Z.k_WORDS.1 rfl rfl fun F => .wt (Z.k_WORDS.2 F) (.cons (.str _) (.cons (.str _) (.cons (.str _) .nil)))
theorem k_LETTERS {pos : Pos} (Z : Fx X.K X.mg) (hg : Gl X "LETTERS" := by rfl) : DE X W (ca X.K) T calls (.Name "LETTERS" pos) (.glb 1) := by
  obtain ⟨t, h⟩ := Z.k_LETTERS
  exact de_glb (v := .str _) hg h ⟨t, rfl⟩ rfl fun F => .str _
theorem k_LARGEST_ALPHABET {pos : Pos} (Z : Fx X.K X.mg) (hg : Gl X "LARGEST_ALPHABET" := by rfl) : DE X W (ca X.K) T calls (.Name "LARGEST_ALPHABET" pos) (.glb 2) := by
  obtain ⟨t, h⟩ := Z.k_LARGEST_ALPHABET
  exact de_glb (v := .int _) hg h ⟨t, rfl⟩ rfl fun F => .int _
theorem m_len {P : Program} {w : World} {base : Heap} {K : PySem.W.Frag} {mg : Str → Option Value} (Z : Fx K mg) (A : Alls P w K mg base (ca K) T defs calls k) (hX : X.prog = P ∧ X.w = w ∧ X.K = K ∧ X.mg = mg ∧ X.base = base := by exact ⟨rfl, rfl, rfl, rfl, rfl⟩) : MethD X (ca K) T calls k "__len__" := ⟨fun c f h => by
  have h' : meths c "__len__" = some f := h
  unfold meths at h'
  split at h'
  · rename_i e
    cases h'
    obtain ⟨rfl, _⟩ := e
    obtain ⟨rfl, rfl, rfl, rfl, rfl⟩ := hX
    obtain ⟨fd, G, hb, _⟩ := A 16 _ _ rfl
    exact ⟨Z.cls_Machine, _, fd, _, Z.me_Machine___len__, G, hb⟩
  · cases h'⟩
end
theorem sc__law_outside : FnScope ["abc", "signs", "sign"] ["abc"] (defScope (top 35)) := ⟨rfl, rfl, rfl, by decide +kernel, rfl, by decide +kernel, by decide +kernel⟩
theorem b__law_outside {P : Program} {w : World} {K : PySem.W.Frag} {mg : Str → Option Value} {base : Heap} {calls : Calls} {k : Nat} (Z : Fx K mg) (A : Alls P w K mg base (ca K) T defs calls k) (KW_count_texts : KwOk P w K mg base (ca K) T calls k 18 ("count_texts", none) ["machine", "length"] ["machine", "length"]) (fa : Addr) (cdv : Value) (Ar : Around) (outer : List PySem.Env) (s : Shared) (H : Hp) (E : XK)
    (go : Go (CB P w K mg base ["abc", "signs", "sign"] "_law_outside" (defScope (top 35)) fa cdv Ar outer s H E) (ca K) T calls (fun cls d _ H => E cls d H) k)
    (po : PassesOwn (model P w) (CB P w K mg base ["abc", "signs", "sign"] "_law_outside" (defScope (top 35)) fa cdv Ar outer s H E).A (CB P w K mg base ["abc", "signs", "sign"] "_law_outside" (defScope (top 35)) fa cdv Ar outer s H E).env (CB P w K mg base ["abc", "signs", "sign"] "_law_outside" (defScope (top 35)) fa cdv Ar outer s H E).xe) :
    DSs (CB P w K mg base ["abc", "signs", "sign"] "_law_outside" (defScope (top 35)) fa cdv Ar outer s H E) (fun cls d _ H => E cls d H) (ca K) T calls f__law_outside.ro (defBody (top 35)) f__law_outside.body := by
  have B : Bd (CB P w K mg base ["abc", "signs", "sign"] "_law_outside" (defScope (top 35)) fa cdv Ar outer s H E) (ca K) T calls (fun cls d _ H => E cls d H) k := ⟨go, sc__law_outside.nd, rfl, Z.bi, attr_ok Z⟩
  have h : DSs (CB P w K mg base ["abc", "signs", "sign"] "_law_outside" (defScope (top 35)) fa cdv Ar outer s H E) (fun cls d _ H => E cls d H) (ca K) T calls false (defBody (top 35)) _ := (dss_cons (ds_set (i := 1) de_str B.nd)
    (dss_cons (ds_ret (de_fr (do_lci B.calm B.nd (di_seq (de_var 1)) (blkOk_by (own := [("sign", 2)]) (by kernel_rfl)) (fun s1 H1 C1 l1 p1 => (g_nm (B.blk s1 H1 C1 l1 p1) 2)) (fun s1 H1 C1 l1 p1 => (t_notIn (B.blk s1 H1 C1 l1 p1) (da_s 2) (da_s 0))) (fun s1 H1 C1 l1 p1 => (de_var 2)))))
    dss_nil))
  exact h
theorem sc__law_draw : FnScope ["pool", "many", "cell"] ["pool", "many"] (defScope (top 33)) := ⟨rfl, rfl, rfl, by decide +kernel, rfl, by decide +kernel, by decide +kernel⟩
theorem b__law_draw {P : Program} {w : World} {K : PySem.W.Frag} {mg : Str → Option Value} {base : Heap} {calls : Calls} {k : Nat} (Z : Fx K mg) (A : Alls P w K mg base (ca K) T defs calls k) (KW_count_texts : KwOk P w K mg base (ca K) T calls k 18 ("count_texts", none) ["machine", "length"] ["machine", "length"]) (fa : Addr) (cdv : Value) (Ar : Around) (outer : List PySem.Env) (s : Shared) (H : Hp) (E : XK)
    (go : Go (CB P w K mg base ["pool", "many", "cell"] "_law_draw" (defScope (top 33)) fa cdv Ar outer s H E) (ca K) T calls (fun cls d _ H => E cls d H) k)
    (po : PassesOwn (model P w) (CB P w K mg base ["pool", "many", "cell"] "_law_draw" (defScope (top 33)) fa cdv Ar outer s H E).A (CB P w K mg base ["pool", "many", "cell"] "_law_draw" (defScope (top 33)) fa cdv Ar outer s H E).env (CB P w K mg base ["pool", "many", "cell"] "_law_draw" (defScope (top 33)) fa cdv Ar outer s H E).xe) :
    DSs (CB P w K mg base ["pool", "many", "cell"] "_law_draw" (defScope (top 33)) fa cdv Ar outer s H E) (fun cls d _ H => E cls d H) (ca K) T calls f__law_draw.ro (defBody (top 33)) f__law_draw.body := by
  have B : Bd (CB P w K mg base ["pool", "many", "cell"] "_law_draw" (defScope (top 33)) fa cdv Ar outer s H E) (ca K) T calls (fun cls d _ H => E cls d H) k := ⟨go, sc__law_draw.nd, rfl, Z.bi, attr_ok Z⟩
  have h : DSs (CB P w K mg base ["pool", "many", "cell"] "_law_draw" (defScope (top 33)) fa cdv Ar outer s H E) (fun cls d _ H => E cls d H) (ca K) T calls false (defBody (top 33)) _ := (dss_cons (ds_if (t_eq B (da_s 0) (da_e (de_fr (do_lst das_nil)))) (dss_cons (ds_ret de_int)
    dss_nil) dss_nil)
    (dss_cons (ds_set (i := 2) (e_pop B (vr 0)) B.nd)
    (dss_cons (ds_if (t_ge B (da_s 2) (da_s 1)) (dss_cons (ds_expr (e_append B (da_e (e_fdiv B (da_s 2) (da_s 1))) (vr 0)))
    dss_nil) dss_nil)
    (dss_cons (ds_ret (e_mod B (da_e (e_int B (da_s 2))) (da_s 1)))
    dss_nil))))
  exact h
theorem sc__law_pick_letters : FnScope ["pool", "many", "abc", "k", "left"] ["pool", "many"] (defScope (top 36)) := ⟨rfl, rfl, rfl, by decide +kernel, rfl, by decide +kernel, by decide +kernel⟩
theorem b__law_pick_letters {P : Program} {w : World} {K : PySem.W.Frag} {mg : Str → Option Value} {base : Heap} {calls : Calls} {k : Nat} (Z : Fx K mg) (A : Alls P w K mg base (ca K) T defs calls k) (KW_count_texts : KwOk P w K mg base (ca K) T calls k 18 ("count_texts", none) ["machine", "length"] ["machine", "length"]) (fa : Addr) (cdv : Value) (Ar : Around) (outer : List PySem.Env) (s : Shared) (H : Hp) (E : XK)
    (go : Go (CB P w K mg base ["pool", "many", "abc", "k", "left"] "_law_pick_letters" (defScope (top 36)) fa cdv Ar outer s H E) (ca K) T calls (fun cls d _ H => E cls d H) k)
    (po : PassesOwn (model P w) (CB P w K mg base ["pool", "many", "abc", "k", "left"] "_law_pick_letters" (defScope (top 36)) fa cdv Ar outer s H E).A (CB P w K mg base ["pool", "many", "abc", "k", "left"] "_law_pick_letters" (defScope (top 36)) fa cdv Ar outer s H E).env (CB P w K mg base ["pool", "many", "abc", "k", "left"] "_law_pick_letters" (defScope (top 36)) fa cdv Ar outer s H E).xe) :
    DSs (CB P w K mg base ["pool", "many", "abc", "k", "left"] "_law_pick_letters" (defScope (top 36)) fa cdv Ar outer s H E) (fun cls d _ H => E cls d H) (ca K) T calls f__law_pick_letters.ro (defBody (top 36)) f__law_pick_letters.body := by
  have B : Bd (CB P w K mg base ["pool", "many", "abc", "k", "left"] "_law_pick_letters" (defScope (top 36)) fa cdv Ar outer s H E) (ca K) T calls (fun cls d _ H => E cls d H) k := ⟨go, sc__law_pick_letters.nd, rfl, Z.bi, attr_ok Z⟩
  have h : DSs (CB P w K mg base ["pool", "many", "abc", "k", "left"] "_law_pick_letters" (defScope (top 36)) fa cdv Ar outer s H E) (fun cls d _ H => E cls d H) (ca K) T calls false (defBody (top 36)) _ := (dss_cons (ds_set (i := 2) de_str B.nd)
    (dss_cons (ds_for po B.calm (i_rng1 B (de_var 1)) (g_nm B 3) (dss_cons (ds_set (i := 4) (e_call B A 0 (das_cons (da_e (de_var 2)) das_nil) Z.g__law_outside) B.nd)
    (dss_cons (ds_set (i := 2) (e_add B (da_s 2) (da_e (e_idx B (da_s 4) (da_e (e_mod B (da_e (e_int B (da_e (e_add B (da_e (e_call B A 1 (das_cons (da_s 0) (das_cons (da_e (e_len B (da_s 4))) das_nil)) Z.g__law_draw)) (da_e (e_mul B (da_e de_int) (da_s 3))))))) (da_e (e_len B (da_s 4)))))))) B.nd)
    dss_nil)))
    (dss_cons (ds_ret (de_var 2))
    dss_nil)))
  exact h
theorem sc__law_build : FnScope ["pool", "abc", "n", "shift", "steps", "p", "menu", "words", "row", "k"] ["pool", "abc", "n", "shift"] (defScope (top 37)) := ⟨rfl, rfl, rfl, by decide +kernel, rfl, by decide +kernel, by decide +kernel⟩
theorem b__law_build {P : Program} {w : World} {K : PySem.W.Frag} {mg : Str → Option Value} {base : Heap} {calls : Calls} {k : Nat} (Z : Fx K mg) (A : Alls P w K mg base (ca K) T defs calls k) (KW_count_texts : KwOk P w K mg base (ca K) T calls k 18 ("count_texts", none) ["machine", "length"] ["machine", "length"]) (fa : Addr) (cdv : Value) (Ar : Around) (outer : List PySem.Env) (s : Shared) (H : Hp) (E : XK)
    (go : Go (CB P w K mg base ["pool", "abc", "n", "shift", "steps", "p", "menu", "words", "row", "k"] "_law_build" (defScope (top 37)) fa cdv Ar outer s H E) (ca K) T calls (fun cls d _ H => E cls d H) k)
    (po : PassesOwn (model P w) (CB P w K mg base ["pool", "abc", "n", "shift", "steps", "p", "menu", "words", "row", "k"] "_law_build" (defScope (top 37)) fa cdv Ar outer s H E).A (CB P w K mg base ["pool", "abc", "n", "shift", "steps", "p", "menu", "words", "row", "k"] "_law_build" (defScope (top 37)) fa cdv Ar outer s H E).env (CB P w K mg base ["pool", "abc", "n", "shift", "steps", "p", "menu", "words", "row", "k"] "_law_build" (defScope (top 37)) fa cdv Ar outer s H E).xe) :
    DSs (CB P w K mg base ["pool", "abc", "n", "shift", "steps", "p", "menu", "words", "row", "k"] "_law_build" (defScope (top 37)) fa cdv Ar outer s H E) (fun cls d _ H => E cls d H) (ca K) T calls f__law_build.ro (defBody (top 37)) f__law_build.body := by
  have B : Bd (CB P w K mg base ["pool", "abc", "n", "shift", "steps", "p", "menu", "words", "row", "k"] "_law_build" (defScope (top 37)) fa cdv Ar outer s H E) (ca K) T calls (fun cls d _ H => E cls d H) k := ⟨go, sc__law_build.nd, rfl, Z.bi, attr_ok Z⟩
  have h : DSs (CB P w K mg base ["pool", "abc", "n", "shift", "steps", "p", "menu", "words", "row", "k"] "_law_build" (defScope (top 37)) fa cdv Ar outer s H E) (fun cls d _ H => E cls d H) (ca K) T calls false (defBody (top 37)) _ := (dss_cons (ds_setO (i := 4) (do_lst das_nil) B.nd)
    (dss_cons (ds_for po B.calm (i_rng1 B (de_var 2)) (g_nm B 5) (dss_cons (ds_setO (i := 8) (do_lst das_nil) B.nd)
    (dss_cons (ds_for po B.calm (i_rng1 B (e_len B (da_s 1))) (g_nm B 9) (dss_cons (ds_expr (e_append B (da_e (e_mod B (da_e (e_int B (da_e (e_add B (da_e (e_add B (da_e (e_add B (da_e (e_call B A 1 (das_cons (da_s 0) (das_cons (da_e (de_var 2)) das_nil)) Z.g__law_draw)) (da_e (e_mul B (da_s 5) (da_e (e_add B (da_e de_int) (da_s 3))))))) (da_s 9))) (da_e de_int))))) (da_s 2))) (vr 8)))
    dss_nil))
    (dss_cons (ds_expr (e_append B (da_e (de_var 8)) (vr 4)))
    dss_nil))))
    (dss_cons (ds_set (i := 6) (de_fr (do_lst (das_cons (da_e de_str) (das_cons (da_e de_str) (das_cons (da_e de_str) das_nil))))) B.nd)
    (dss_cons (ds_setO (i := 7) (do_lst das_nil) B.nd)
    (dss_cons (ds_for po B.calm (i_rng1 B (de_var 2)) (g_nm B 5) (dss_cons (ds_expr (e_append B (da_e (e_idx B (da_s 6) (da_e (e_mod B (da_e (e_int B (da_e (e_add B (da_e (e_add B (da_e (e_call B A 1 (das_cons (da_s 0) (das_cons (da_e de_int) das_nil)) Z.g__law_draw)) (da_s 5))) (da_s 3))))) (da_e de_int))))) (vr 7)))
    dss_nil))
    (dss_cons (ds_ret (de_fr (do_lst (das_cons (da_e (de_var 1)) (das_cons (da_e (e_mod B (da_e (e_int B (da_e (e_add B (da_e (e_call B A 1 (das_cons (da_s 0) (das_cons (da_e (de_var 2)) das_nil)) Z.g__law_draw)) (da_e de_int))))) (da_s 2))) (das_cons (da_e (de_var 4)) (das_cons (da_e (de_var 7)) das_nil)))))))
    dss_nil))))))
  exact h
theorem sc__law_two : FnScope ["pool", "great", "many", "n", "abc", "first"] ["pool", "great"] (defScope (top 43)) := ⟨rfl, rfl, rfl, by decide +kernel, rfl, by decide +kernel, by decide +kernel⟩
theorem b__law_two {P : Program} {w : World} {K : PySem.W.Frag} {mg : Str → Option Value} {base : Heap} {calls : Calls} {k : Nat} (Z : Fx K mg) (A : Alls P w K mg base (ca K) T defs calls k) (KW_count_texts : KwOk P w K mg base (ca K) T calls k 18 ("count_texts", none) ["machine", "length"] ["machine", "length"]) (fa : Addr) (cdv : Value) (Ar : Around) (outer : List PySem.Env) (s : Shared) (H : Hp) (E : XK)
    (go : Go (CB P w K mg base ["pool", "great", "many", "n", "abc", "first"] "_law_two" (defScope (top 43)) fa cdv Ar outer s H E) (ca K) T calls (fun cls d _ H => E cls d H) k)
    (po : PassesOwn (model P w) (CB P w K mg base ["pool", "great", "many", "n", "abc", "first"] "_law_two" (defScope (top 43)) fa cdv Ar outer s H E).A (CB P w K mg base ["pool", "great", "many", "n", "abc", "first"] "_law_two" (defScope (top 43)) fa cdv Ar outer s H E).env (CB P w K mg base ["pool", "great", "many", "n", "abc", "first"] "_law_two" (defScope (top 43)) fa cdv Ar outer s H E).xe) :
    DSs (CB P w K mg base ["pool", "great", "many", "n", "abc", "first"] "_law_two" (defScope (top 43)) fa cdv Ar outer s H E) (fun cls d _ H => E cls d H) (ca K) T calls f__law_two.ro (defBody (top 43)) f__law_two.body := by
  have B : Bd (CB P w K mg base ["pool", "great", "many", "n", "abc", "first"] "_law_two" (defScope (top 43)) fa cdv Ar outer s H E) (ca K) T calls (fun cls d _ H => E cls d H) k := ⟨go, sc__law_two.nd, rfl, Z.bi, attr_ok Z⟩
  have h : DSs (CB P w K mg base ["pool", "great", "many", "n", "abc", "first"] "_law_two" (defScope (top 43)) fa cdv Ar outer s H E) (fun cls d _ H => E cls d H) (ca K) T calls false (defBody (top 43)) _ := (dss_cons (ds_set (i := 2) (e_idx B (da_e (de_fr (do_lst (das_cons (da_e de_int) (das_cons (da_e de_int) (das_cons (da_e de_int) das_nil)))))) (da_e (e_call B A 1 (das_cons (da_s 0) (das_cons (da_e de_int) das_nil)) Z.g__law_draw))) B.nd)
    (dss_cons (ds_set (i := 3) (e_idx B (da_e (de_fr (do_lst (das_cons (da_e de_int) (das_cons (da_e de_int) (das_cons (da_e de_int) (das_cons (da_e de_int) (das_cons (da_e de_int) (das_cons (da_e de_int) das_nil))))))))) (da_e (e_call B A 1 (das_cons (da_s 0) (das_cons (da_e de_int) das_nil)) Z.g__law_draw))) B.nd)
    (dss_cons (ds_if (dt_val (de_var 1)) (dss_cons (ds_set (i := 2) (e_sub B (da_e de_int) (da_e (e_call B A 1 (das_cons (da_s 0) (das_cons (da_e de_int) das_nil)) Z.g__law_draw))) B.nd)
    (dss_cons (ds_set (i := 3) (e_sub B (da_e de_int) (da_e (e_call B A 1 (das_cons (da_s 0) (das_cons (da_e de_int) das_nil)) Z.g__law_draw))) B.nd)
    dss_nil)) dss_nil)
    (dss_cons (ds_set (i := 4) (e_call B A 2 (das_cons (da_s 0) (das_cons (da_e (de_var 2)) das_nil)) Z.g__law_pick_letters) B.nd)
    (dss_cons (ds_set (i := 5) (e_call B A 3 (das_cons (da_s 0) (das_cons (da_e (de_var 4)) (das_cons (da_e (de_var 3)) (das_cons (da_e de_int) das_nil)))) Z.g__law_build) B.nd)
    (dss_cons (ds_ret (de_fr (do_lst (das_cons (da_e (de_var 5)) (das_cons (da_e (e_call B A 3 (das_cons (da_s 0) (das_cons (da_e (de_var 4)) (das_cons (da_e (e_idx B (da_e (de_fr (do_lst (das_cons (da_e de_int) (das_cons (da_e de_int) (das_cons (da_e de_int) (das_cons (da_e de_int) (das_cons (da_e de_int) (das_cons (da_e de_int) das_nil))))))))) (da_e (e_call B A 1 (das_cons (da_s 0) (das_cons (da_e de_int) das_nil)) Z.g__law_draw)))) (das_cons (da_e de_int) das_nil)))) Z.g__law_build)) das_nil)))))
    dss_nil))))))
  exact h
theorem sc_alphabet_fault : FnScope ["alphabet", "allowed", "at", "char"] ["alphabet", "allowed"] (defScope (top 23)) := ⟨rfl, rfl, rfl, by decide +kernel, rfl, by decide +kernel, by decide +kernel⟩
theorem b_alphabet_fault {P : Program} {w : World} {K : PySem.W.Frag} {mg : Str → Option Value} {base : Heap} {calls : Calls} {k : Nat} (Z : Fx K mg) (A : Alls P w K mg base (ca K) T defs calls k) (KW_count_texts : KwOk P w K mg base (ca K) T calls k 18 ("count_texts", none) ["machine", "length"] ["machine", "length"]) (fa : Addr) (cdv : Value) (Ar : Around) (outer : List PySem.Env) (s : Shared) (H : Hp) (E : XK)
    (go : Go (CB P w K mg base ["alphabet", "allowed", "at", "char"] "alphabet_fault" (defScope (top 23)) fa cdv Ar outer s H E) (ca K) T calls (fun cls d _ H => E cls d H) k)
    (po : PassesOwn (model P w) (CB P w K mg base ["alphabet", "allowed", "at", "char"] "alphabet_fault" (defScope (top 23)) fa cdv Ar outer s H E).A (CB P w K mg base ["alphabet", "allowed", "at", "char"] "alphabet_fault" (defScope (top 23)) fa cdv Ar outer s H E).env (CB P w K mg base ["alphabet", "allowed", "at", "char"] "alphabet_fault" (defScope (top 23)) fa cdv Ar outer s H E).xe) :
    DSs (CB P w K mg base ["alphabet", "allowed", "at", "char"] "alphabet_fault" (defScope (top 23)) fa cdv Ar outer s H E) (fun cls d _ H => E cls d H) (ca K) T calls f_alphabet_fault.ro (defBody (top 23)) f_alphabet_fault.body := by
  have B : Bd (CB P w K mg base ["alphabet", "allowed", "at", "char"] "alphabet_fault" (defScope (top 23)) fa cdv Ar outer s H E) (ca K) T calls (fun cls d _ H => E cls d H) k := ⟨go, sc_alphabet_fault.nd, rfl, Z.bi, attr_ok Z⟩
  have h : DSs (CB P w K mg base ["alphabet", "allowed", "at", "char"] "alphabet_fault" (defScope (top 23)) fa cdv Ar outer s H E) (fun cls d _ H => E cls d H) (ca K) T calls false (defBody (top 23)) _ := (dss_cons (ds_if (dt_not (dt_tru (da_s 0))) (dss_cons (ds_ret de_int)
    dss_nil) dss_nil)
    (dss_cons (ds_for po B.calm (i_enum B (de_var 0)) (g_tup B (g_c B 2 (g_c B 3 pgs_no))) (dss_cons (ds_if (dt_w (dw_or (t_eq B (da_s 2) (da_e (k_LARGEST_ALPHABET Z))) (dw_or (t_notIn B (da_s 3) (da_s 1)) (dw_or1 (t_in B (da_s 3) (da_e (de_slHi (da_s 0) (da_s 2)))))))) (dss_cons (ds_ret (de_var 2))
    dss_nil) dss_nil)
    dss_nil))
    (dss_cons (ds_ret de_non)
    dss_nil)))
  exact h
theorem sc_check_alphabet : FnScope ["alphabet", "at"] ["alphabet"] (defScope (top 24)) := ⟨rfl, rfl, rfl, by decide +kernel, rfl, by decide +kernel, by decide +kernel⟩
theorem b_check_alphabet {P : Program} {w : World} {K : PySem.W.Frag} {mg : Str → Option Value} {base : Heap} {calls : Calls} {k : Nat} (Z : Fx K mg) (A : Alls P w K mg base (ca K) T defs calls k) (KW_count_texts : KwOk P w K mg base (ca K) T calls k 18 ("count_texts", none) ["machine", "length"] ["machine", "length"]) (fa : Addr) (cdv : Value) (Ar : Around) (outer : List PySem.Env) (s : Shared) (H : Hp) (E : XK)
    (go : Go (CB P w K mg base ["alphabet", "at"] "check_alphabet" (defScope (top 24)) fa cdv Ar outer s H E) (ca K) T calls (fun cls d _ H => E cls d H) k)
    (po : PassesOwn (model P w) (CB P w K mg base ["alphabet", "at"] "check_alphabet" (defScope (top 24)) fa cdv Ar outer s H E).A (CB P w K mg base ["alphabet", "at"] "check_alphabet" (defScope (top 24)) fa cdv Ar outer s H E).env (CB P w K mg base ["alphabet", "at"] "check_alphabet" (defScope (top 24)) fa cdv Ar outer s H E).xe) :
    DSs (CB P w K mg base ["alphabet", "at"] "check_alphabet" (defScope (top 24)) fa cdv Ar outer s H E) (fun cls d _ H => E cls d H) (ca K) T calls f_check_alphabet.ro (defBody (top 24)) f_check_alphabet.body := by
  have B : Bd (CB P w K mg base ["alphabet", "at"] "check_alphabet" (defScope (top 24)) fa cdv Ar outer s H E) (ca K) T calls (fun cls d _ H => E cls d H) k := ⟨go, sc_check_alphabet.nd, rfl, Z.bi, attr_ok Z⟩
  have h : DSs (CB P w K mg base ["alphabet", "at"] "check_alphabet" (defScope (top 24)) fa cdv Ar outer s H E) (fun cls d _ H => E cls d H) (ca K) T calls false (defBody (top 24)) _ := (dss_cons (ds_set (i := 1) (e_call B A 5 (das_cons (da_e (de_var 0)) (das_cons (da_e (k_LETTERS Z)) das_nil)) Z.g_alphabet_fault) B.nd)
    (dss_cons (ds_if (t_notN B (da_s 1)) (dss_cons ds_never
    dss_nil) dss_nil)
    dss_nil))
  exact h
theorem sc_check_state : FnScope ["state", "count"] ["state", "count"] (defScope (top 27)) := ⟨rfl, rfl, rfl, by decide +kernel, rfl, by decide +kernel, by decide +kernel⟩
theorem b_check_state {P : Program} {w : World} {K : PySem.W.Frag} {mg : Str → Option Value} {base : Heap} {calls : Calls} {k : Nat} (Z : Fx K mg) (A : Alls P w K mg base (ca K) T defs calls k) (KW_count_texts : KwOk P w K mg base (ca K) T calls k 18 ("count_texts", none) ["machine", "length"] ["machine", "length"]) (fa : Addr) (cdv : Value) (Ar : Around) (outer : List PySem.Env) (s : Shared) (H : Hp) (E : XK)
    (go : Go (CB P w K mg base ["state", "count"] "check_state" (defScope (top 27)) fa cdv Ar outer s H E) (ca K) T calls (fun cls d _ H => E cls d H) k)
    (po : PassesOwn (model P w) (CB P w K mg base ["state", "count"] "check_state" (defScope (top 27)) fa cdv Ar outer s H E).A (CB P w K mg base ["state", "count"] "check_state" (defScope (top 27)) fa cdv Ar outer s H E).env (CB P w K mg base ["state", "count"] "check_state" (defScope (top 27)) fa cdv Ar outer s H E).xe) :
    DSs (CB P w K mg base ["state", "count"] "check_state" (defScope (top 27)) fa cdv Ar outer s H E) (fun cls d _ H => E cls d H) (ca K) T calls f_check_state.ro (defBody (top 27)) f_check_state.body := by
  have B : Bd (CB P w K mg base ["state", "count"] "check_state" (defScope (top 27)) fa cdv Ar outer s H E) (ca K) T calls (fun cls d _ H => E cls d H) k := ⟨go, sc_check_state.nd, rfl, Z.bi, attr_ok Z⟩
  have h : DSs (CB P w K mg base ["state", "count"] "check_state" (defScope (top 27)) fa cdv Ar outer s H E) (fun cls d _ H => E cls d H) (ca K) T calls false (defBody (top 27)) _ := (dss_cons (ds_if (dt_not (t_leLt B de_int (de_var 0) (de_var 1))) (dss_cons ds_never
    dss_nil) dss_nil)
    dss_nil)
  exact h
theorem sc_checked_states : FnScope ["given", "count", "state"] ["given", "count"] (defScope (top 28)) := ⟨rfl, rfl, rfl, by decide +kernel, rfl, by decide +kernel, by decide +kernel⟩
theorem b_checked_states {P : Program} {w : World} {K : PySem.W.Frag} {mg : Str → Option Value} {base : Heap} {calls : Calls} {k : Nat} (Z : Fx K mg) (A : Alls P w K mg base (ca K) T defs calls k) (KW_count_texts : KwOk P w K mg base (ca K) T calls k 18 ("count_texts", none) ["machine", "length"] ["machine", "length"]) (fa : Addr) (cdv : Value) (Ar : Around) (outer : List PySem.Env) (s : Shared) (H : Hp) (E : XK)
    (go : Go (CB P w K mg base ["given", "count", "state"] "checked_states" (defScope (top 28)) fa cdv Ar outer s H E) (ca K) T calls (fun cls d _ H => E cls d H) k)
    (po : PassesOwn (model P w) (CB P w K mg base ["given", "count", "state"] "checked_states" (defScope (top 28)) fa cdv Ar outer s H E).A (CB P w K mg base ["given", "count", "state"] "checked_states" (defScope (top 28)) fa cdv Ar outer s H E).env (CB P w K mg base ["given", "count", "state"] "checked_states" (defScope (top 28)) fa cdv Ar outer s H E).xe) :
    DSs (CB P w K mg base ["given", "count", "state"] "checked_states" (defScope (top 28)) fa cdv Ar outer s H E) (fun cls d _ H => E cls d H) (ca K) T calls f_checked_states.ro (defBody (top 28)) f_checked_states.body := by
  have B : Bd (CB P w K mg base ["given", "count", "state"] "checked_states" (defScope (top 28)) fa cdv Ar outer s H E) (ca K) T calls (fun cls d _ H => E cls d H) k := ⟨go, sc_checked_states.nd, rfl, Z.bi, attr_ok Z⟩
  have h : DSs (CB P w K mg base ["given", "count", "state"] "checked_states" (defScope (top 28)) fa cdv Ar outer s H E) (fun cls d _ H => E cls d H) (ca K) T calls false (defBody (top 28)) _ := (dss_cons (ds_for po B.calm (di_seq (de_var 0)) (g_nm B 2) (dss_cons (ds_expr (e_call B A 7 (das_cons (da_e (de_var 2)) (das_cons (da_e (de_var 1)) das_nil)) Z.g_check_state))
    dss_nil))
    (dss_cons (ds_ret (e_tuple B (da_s 0)))
    dss_nil))
  exact h
theorem sc_checked_steps : FnScope ["steps", "count", "width", "table", "row"] ["steps", "count", "width"] (defScope (top 29)) := ⟨rfl, rfl, rfl, by decide +kernel, rfl, by decide +kernel, by decide +kernel⟩
theorem b_checked_steps {P : Program} {w : World} {K : PySem.W.Frag} {mg : Str → Option Value} {base : Heap} {calls : Calls} {k : Nat} (Z : Fx K mg) (A : Alls P w K mg base (ca K) T defs calls k) (KW_count_texts : KwOk P w K mg base (ca K) T calls k 18 ("count_texts", none) ["machine", "length"] ["machine", "length"]) (fa : Addr) (cdv : Value) (Ar : Around) (outer : List PySem.Env) (s : Shared) (H : Hp) (E : XK)
    (go : Go (CB P w K mg base ["steps", "count", "width", "table", "row"] "checked_steps" (defScope (top 29)) fa cdv Ar outer s H E) (ca K) T calls (fun cls d _ H => E cls d H) k)
    (po : PassesOwn (model P w) (CB P w K mg base ["steps", "count", "width", "table", "row"] "checked_steps" (defScope (top 29)) fa cdv Ar outer s H E).A (CB P w K mg base ["steps", "count", "width", "table", "row"] "checked_steps" (defScope (top 29)) fa cdv Ar outer s H E).env (CB P w K mg base ["steps", "count", "width", "table", "row"] "checked_steps" (defScope (top 29)) fa cdv Ar outer s H E).xe) :
    DSs (CB P w K mg base ["steps", "count", "width", "table", "row"] "checked_steps" (defScope (top 29)) fa cdv Ar outer s H E) (fun cls d _ H => E cls d H) (ca K) T calls f_checked_steps.ro (defBody (top 29)) f_checked_steps.body := by
  have B : Bd (CB P w K mg base ["steps", "count", "width", "table", "row"] "checked_steps" (defScope (top 29)) fa cdv Ar outer s H E) (ca K) T calls (fun cls d _ H => E cls d H) k := ⟨go, sc_checked_steps.nd, rfl, Z.bi, attr_ok Z⟩
  have h : DSs (CB P w K mg base ["steps", "count", "width", "table", "row"] "checked_steps" (defScope (top 29)) fa cdv Ar outer s H E) (fun cls d _ H => E cls d H) (ca K) T calls false (defBody (top 29)) _ := (dss_cons (ds_if (t_ne B (da_e (e_len B (da_s 0))) (da_s 1)) (dss_cons ds_never
    dss_nil) dss_nil)
    (dss_cons (ds_setO (i := 3) (do_lst das_nil) B.nd)
    (dss_cons (ds_for po B.calm (di_seq (de_var 0)) (g_nm B 4) (dss_cons (ds_if (t_ne B (da_e (e_len B (da_s 4))) (da_s 2)) (dss_cons ds_never
    dss_nil) dss_nil)
    (dss_cons (ds_expr (e_append B (da_e (e_call B A 8 (das_cons (da_e (de_var 4)) (das_cons (da_e (de_var 1)) das_nil)) Z.g_checked_states)) (vr 3)))
    dss_nil)))
    (dss_cons (ds_ret (e_tuple B (da_s 3)))
    dss_nil))))
  exact h
theorem sc_check_verdict : FnScope ["verdict"] ["verdict"] (defScope (top 11)) := ⟨rfl, rfl, rfl, by decide +kernel, rfl, by decide +kernel, by decide +kernel⟩
theorem b_check_verdict {P : Program} {w : World} {K : PySem.W.Frag} {mg : Str → Option Value} {base : Heap} {calls : Calls} {k : Nat} (Z : Fx K mg) (A : Alls P w K mg base (ca K) T defs calls k) (KW_count_texts : KwOk P w K mg base (ca K) T calls k 18 ("count_texts", none) ["machine", "length"] ["machine", "length"]) (fa : Addr) (cdv : Value) (Ar : Around) (outer : List PySem.Env) (s : Shared) (H : Hp) (E : XK)
    (go : Go (CB P w K mg base ["verdict"] "check_verdict" (defScope (top 11)) fa cdv Ar outer s H E) (ca K) T calls (fun cls d _ H => E cls d H) k)
    (po : PassesOwn (model P w) (CB P w K mg base ["verdict"] "check_verdict" (defScope (top 11)) fa cdv Ar outer s H E).A (CB P w K mg base ["verdict"] "check_verdict" (defScope (top 11)) fa cdv Ar outer s H E).env (CB P w K mg base ["verdict"] "check_verdict" (defScope (top 11)) fa cdv Ar outer s H E).xe) :
    DSs (CB P w K mg base ["verdict"] "check_verdict" (defScope (top 11)) fa cdv Ar outer s H E) (fun cls d _ H => E cls d H) (ca K) T calls f_check_verdict.ro (defBody (top 11)) f_check_verdict.body := by
  have B : Bd (CB P w K mg base ["verdict"] "check_verdict" (defScope (top 11)) fa cdv Ar outer s H E) (ca K) T calls (fun cls d _ H => E cls d H) k := ⟨go, sc_check_verdict.nd, rfl, Z.bi, attr_ok Z⟩
  have h : DSs (CB P w K mg base ["verdict"] "check_verdict" (defScope (top 11)) fa cdv Ar outer s H E) (fun cls d _ H => E cls d H) (ca K) T calls false (defBody (top 11)) _ := (dss_cons (ds_if (t_notIn B (da_s 0) (da_e (k_WORDS Z))) (dss_cons ds_never
    dss_nil) dss_nil)
    dss_nil)
  exact h
theorem sc_checked_verdicts : FnScope ["verdicts", "verdict"] ["verdicts"] (defScope (top 30)) := ⟨rfl, rfl, rfl, by decide +kernel, rfl, by decide +kernel, by decide +kernel⟩
theorem b_checked_verdicts {P : Program} {w : World} {K : PySem.W.Frag} {mg : Str → Option Value} {base : Heap} {calls : Calls} {k : Nat} (Z : Fx K mg) (A : Alls P w K mg base (ca K) T defs calls k) (KW_count_texts : KwOk P w K mg base (ca K) T calls k 18 ("count_texts", none) ["machine", "length"] ["machine", "length"]) (fa : Addr) (cdv : Value) (Ar : Around) (outer : List PySem.Env) (s : Shared) (H : Hp) (E : XK)
    (go : Go (CB P w K mg base ["verdicts", "verdict"] "checked_verdicts" (defScope (top 30)) fa cdv Ar outer s H E) (ca K) T calls (fun cls d _ H => E cls d H) k)
    (po : PassesOwn (model P w) (CB P w K mg base ["verdicts", "verdict"] "checked_verdicts" (defScope (top 30)) fa cdv Ar outer s H E).A (CB P w K mg base ["verdicts", "verdict"] "checked_verdicts" (defScope (top 30)) fa cdv Ar outer s H E).env (CB P w K mg base ["verdicts", "verdict"] "checked_verdicts" (defScope (top 30)) fa cdv Ar outer s H E).xe) :
    DSs (CB P w K mg base ["verdicts", "verdict"] "checked_verdicts" (defScope (top 30)) fa cdv Ar outer s H E) (fun cls d _ H => E cls d H) (ca K) T calls f_checked_verdicts.ro (defBody (top 30)) f_checked_verdicts.body := by
  have B : Bd (CB P w K mg base ["verdicts", "verdict"] "checked_verdicts" (defScope (top 30)) fa cdv Ar outer s H E) (ca K) T calls (fun cls d _ H => E cls d H) k := ⟨go, sc_checked_verdicts.nd, rfl, Z.bi, attr_ok Z⟩
  have h : DSs (CB P w K mg base ["verdicts", "verdict"] "checked_verdicts" (defScope (top 30)) fa cdv Ar outer s H E) (fun cls d _ H => E cls d H) (ca K) T calls false (defBody (top 30)) _ := (dss_cons (ds_for po B.calm (di_seq (de_var 0)) (g_nm B 1) (dss_cons (ds_expr (e_call B A 10 (das_cons (da_e (de_var 1)) das_nil) Z.g_check_verdict))
    dss_nil))
    (dss_cons (ds_ret (e_tuple B (da_s 0)))
    dss_nil))
  exact h
theorem sc_Machine___init__ : FnScope ["self", "alphabet", "start", "steps", "verdicts", "kept", "told"] ["self", "alphabet", "start", "steps", "verdicts"] (defScope (inClass (top 26) 0)) := ⟨rfl, rfl, rfl, by decide +kernel, rfl, by decide +kernel, by decide +kernel⟩
theorem b_Machine___init__ {P : Program} {w : World} {K : PySem.W.Frag} {mg : Str → Option Value} {base : Heap} {calls : Calls} {k : Nat} (Z : Fx K mg) (A : Alls P w K mg base (ca K) T defs calls k) (KW_count_texts : KwOk P w K mg base (ca K) T calls k 18 ("count_texts", none) ["machine", "length"] ["machine", "length"]) (fa : Addr) (cdv : Value) (Ar : Around) (outer : List PySem.Env) (s : Shared) (H : Hp) (E : XK)
    (go : Go (CB P w K mg base ["self", "alphabet", "start", "steps", "verdicts", "kept", "told"] "Machine.__init__" (defScope (inClass (top 26) 0)) fa cdv Ar outer s H E) (ca K) T calls (fun cls d _ H => E cls d H) k)
    (po : PassesOwn (model P w) (CB P w K mg base ["self", "alphabet", "start", "steps", "verdicts", "kept", "told"] "Machine.__init__" (defScope (inClass (top 26) 0)) fa cdv Ar outer s H E).A (CB P w K mg base ["self", "alphabet", "start", "steps", "verdicts", "kept", "told"] "Machine.__init__" (defScope (inClass (top 26) 0)) fa cdv Ar outer s H E).env (CB P w K mg base ["self", "alphabet", "start", "steps", "verdicts", "kept", "told"] "Machine.__init__" (defScope (inClass (top 26) 0)) fa cdv Ar outer s H E).xe) :
    DSs (CB P w K mg base ["self", "alphabet", "start", "steps", "verdicts", "kept", "told"] "Machine.__init__" (defScope (inClass (top 26) 0)) fa cdv Ar outer s H E) (fun cls d _ H => E cls d H) (ca K) T calls f_Machine___init__.ro (defBody (inClass (top 26) 0)) f_Machine___init__.body := by
  have B : Bd (CB P w K mg base ["self", "alphabet", "start", "steps", "verdicts", "kept", "told"] "Machine.__init__" (defScope (inClass (top 26) 0)) fa cdv Ar outer s H E) (ca K) T calls (fun cls d _ H => E cls d H) k := ⟨go, sc_Machine___init__.nd, rfl, Z.bi, attr_ok Z⟩
  have h : DSs (CB P w K mg base ["self", "alphabet", "start", "steps", "verdicts", "kept", "told"] "Machine.__init__" (defScope (inClass (top 26) 0)) fa cdv Ar outer s H E) (fun cls d _ H => E cls d H) (ca K) T calls false (defBody (inClass (top 26) 0)) _ := (dss_cons (ds_expr (e_call B A 6 (das_cons (da_e (de_var 1)) das_nil) Z.g_check_alphabet))
    (dss_cons (ds_expr (e_call B A 7 (das_cons (da_e (de_var 2)) (das_cons (da_e (e_len B (da_s 4))) das_nil)) Z.g_check_state))
    (dss_cons (ds_set (i := 5) (e_call B A 9 (das_cons (da_e (de_var 3)) (das_cons (da_e (e_len B (da_s 4))) (das_cons (da_e (e_len B (da_s 1))) das_nil))) Z.g_checked_steps) B.nd)
    (dss_cons (ds_set (i := 6) (e_call B A 11 (das_cons (da_e (de_var 4)) das_nil) Z.g_checked_verdicts) B.nd)
    (dss_cons (ds_fset B.attr (vr 0) (de_var 1))
    (dss_cons (ds_fset B.attr (vr 0) (de_var 2))
    (dss_cons (ds_fset B.attr (vr 0) (de_var 5))
    (dss_cons (ds_fset B.attr (vr 0) (de_var 6))
    dss_nil))))))))
  exact h
theorem sc__law_object : FnScope ["given", "abc", "start", "steps", "words", "row"] ["given"] (defScope (top 38)) := ⟨rfl, rfl, rfl, by decide +kernel, rfl, by decide +kernel, by decide +kernel⟩
theorem b__law_object {P : Program} {w : World} {K : PySem.W.Frag} {mg : Str → Option Value} {base : Heap} {calls : Calls} {k : Nat} (Z : Fx K mg) (A : Alls P w K mg base (ca K) T defs calls k) (KW_count_texts : KwOk P w K mg base (ca K) T calls k 18 ("count_texts", none) ["machine", "length"] ["machine", "length"]) (fa : Addr) (cdv : Value) (Ar : Around) (outer : List PySem.Env) (s : Shared) (H : Hp) (E : XK)
    (go : Go (CB P w K mg base ["given", "abc", "start", "steps", "words", "row"] "_law_object" (defScope (top 38)) fa cdv Ar outer s H E) (ca K) T calls (fun cls d _ H => E cls d H) k)
    (po : PassesOwn (model P w) (CB P w K mg base ["given", "abc", "start", "steps", "words", "row"] "_law_object" (defScope (top 38)) fa cdv Ar outer s H E).A (CB P w K mg base ["given", "abc", "start", "steps", "words", "row"] "_law_object" (defScope (top 38)) fa cdv Ar outer s H E).env (CB P w K mg base ["given", "abc", "start", "steps", "words", "row"] "_law_object" (defScope (top 38)) fa cdv Ar outer s H E).xe) :
    DSs (CB P w K mg base ["given", "abc", "start", "steps", "words", "row"] "_law_object" (defScope (top 38)) fa cdv Ar outer s H E) (fun cls d _ H => E cls d H) (ca K) T calls f__law_object.ro (defBody (top 38)) f__law_object.body := by
  have B : Bd (CB P w K mg base ["given", "abc", "start", "steps", "words", "row"] "_law_object" (defScope (top 38)) fa cdv Ar outer s H E) (ca K) T calls (fun cls d _ H => E cls d H) k := ⟨go, sc__law_object.nd, rfl, Z.bi, attr_ok Z⟩
  have h : DSs (CB P w K mg base ["given", "abc", "start", "steps", "words", "row"] "_law_object" (defScope (top 38)) fa cdv Ar outer s H E) (fun cls d _ H => E cls d H) (ca K) T calls false (defBody (top 38)) _ := (dss_cons (ds_unpL (de_var 0) B.calm (g_c B 1 (g_c B 2 (g_c B 3 (g_c B 4 pgs_no)))))
    (dss_cons (ds_ret (e_new B A 0 12 (das_cons (da_e (de_var 1)) (das_cons (da_e (de_var 2)) (das_cons (da_e (de_fr (do_lc B.calm B.nd (di_seq (de_var 3)) (blkOk_by (own := [("row", 5)]) (by kernel_rfl)) (fun s1 H1 C1 l1 p1 => (g_nm (B.blk s1 H1 C1 l1 p1) 5)) (fun s1 H1 C1 l1 p1 => (de_fr (o_list (B.blk s1 H1 C1 l1 p1) (da_s 5))))))) (das_cons (da_e (de_fr (o_list B (da_s 4)))) das_nil)))) Z.g_Machine Z.mk_Machine rfl))
    dss_nil))
  exact h
theorem sc__law_same : FnScope ["told", "due"] ["told", "due"] (defScope (top 34)) := ⟨rfl, rfl, rfl, by decide +kernel, rfl, by decide +kernel, by decide +kernel⟩
theorem b__law_same {P : Program} {w : World} {K : PySem.W.Frag} {mg : Str → Option Value} {base : Heap} {calls : Calls} {k : Nat} (Z : Fx K mg) (A : Alls P w K mg base (ca K) T defs calls k) (KW_count_texts : KwOk P w K mg base (ca K) T calls k 18 ("count_texts", none) ["machine", "length"] ["machine", "length"]) (fa : Addr) (cdv : Value) (Ar : Around) (outer : List PySem.Env) (s : Shared) (H : Hp) (E : XK)
    (go : Go (CB P w K mg base ["told", "due"] "_law_same" (defScope (top 34)) fa cdv Ar outer s H E) (ca K) T calls (fun cls d _ H => E cls d H) k)
    (po : PassesOwn (model P w) (CB P w K mg base ["told", "due"] "_law_same" (defScope (top 34)) fa cdv Ar outer s H E).A (CB P w K mg base ["told", "due"] "_law_same" (defScope (top 34)) fa cdv Ar outer s H E).env (CB P w K mg base ["told", "due"] "_law_same" (defScope (top 34)) fa cdv Ar outer s H E).xe) :
    DSs (CB P w K mg base ["told", "due"] "_law_same" (defScope (top 34)) fa cdv Ar outer s H E) (fun cls d _ H => E cls d H) (ca K) T calls f__law_same.ro (defBody (top 34)) f__law_same.body := by
  have B : Bd (CB P w K mg base ["told", "due"] "_law_same" (defScope (top 34)) fa cdv Ar outer s H E) (ca K) T calls (fun cls d _ H => E cls d H) k := ⟨go, sc__law_same.nd, rfl, Z.bi, attr_ok Z⟩
  have h : DSs (CB P w K mg base ["told", "due"] "_law_same" (defScope (top 34)) fa cdv Ar outer s H E) (fun cls d _ H => E cls d H) (ca K) T calls false (defBody (top 34)) _ := (dss_cons (ds_ret (de_and (e_eq B (da_s 0) (da_s 1)) (de_one (e_eq B (da_e (e_repr B (da_s 0))) (da_e (e_repr B (da_s 1)))))))
    dss_nil)
  exact h
theorem sc__law_stays : FnScope ["one", "given", "due", "abc", "start", "steps", "words", "row"] ["one", "given"] (defScope (top 39)) := ⟨rfl, rfl, rfl, by decide +kernel, rfl, by decide +kernel, by decide +kernel⟩
theorem b__law_stays {P : Program} {w : World} {K : PySem.W.Frag} {mg : Str → Option Value} {base : Heap} {calls : Calls} {k : Nat} (Z : Fx K mg) (A : Alls P w K mg base (ca K) T defs calls k) (KW_count_texts : KwOk P w K mg base (ca K) T calls k 18 ("count_texts", none) ["machine", "length"] ["machine", "length"]) (fa : Addr) (cdv : Value) (Ar : Around) (outer : List PySem.Env) (s : Shared) (H : Hp) (E : XK)
    (go : Go (CB P w K mg base ["one", "given", "due", "abc", "start", "steps", "words", "row"] "_law_stays" (defScope (top 39)) fa cdv Ar outer s H E) (ca K) T calls (fun cls d _ H => E cls d H) k)
    (po : PassesOwn (model P w) (CB P w K mg base ["one", "given", "due", "abc", "start", "steps", "words", "row"] "_law_stays" (defScope (top 39)) fa cdv Ar outer s H E).A (CB P w K mg base ["one", "given", "due", "abc", "start", "steps", "words", "row"] "_law_stays" (defScope (top 39)) fa cdv Ar outer s H E).env (CB P w K mg base ["one", "given", "due", "abc", "start", "steps", "words", "row"] "_law_stays" (defScope (top 39)) fa cdv Ar outer s H E).xe) :
    DSs (CB P w K mg base ["one", "given", "due", "abc", "start", "steps", "words", "row"] "_law_stays" (defScope (top 39)) fa cdv Ar outer s H E) (fun cls d _ H => E cls d H) (ca K) T calls f__law_stays.ro (defBody (top 39)) f__law_stays.body := by
  have B : Bd (CB P w K mg base ["one", "given", "due", "abc", "start", "steps", "words", "row"] "_law_stays" (defScope (top 39)) fa cdv Ar outer s H E) (ca K) T calls (fun cls d _ H => E cls d H) k := ⟨go, sc__law_stays.nd, rfl, Z.bi, attr_ok Z⟩
  have h : DSs (CB P w K mg base ["one", "given", "due", "abc", "start", "steps", "words", "row"] "_law_stays" (defScope (top 39)) fa cdv Ar outer s H E) (fun cls d _ H => E cls d H) (ca K) T calls false (defBody (top 39)) _ := (dss_cons (ds_unpL (de_var 1) B.calm (g_c B 3 (g_c B 4 (g_c B 5 (g_c B 6 pgs_no)))))
    (dss_cons (ds_set (i := 2) (de_tup (das_cons (da_e (de_var 3)) (das_cons (da_e (de_var 4)) (das_cons (da_e (e_tuple B (da_e (de_fr (do_lc B.calm B.nd (di_seq (de_var 5)) (blkOk_by (own := [("row", 7)]) (by kernel_rfl)) (fun s1 H1 C1 l1 p1 => (g_nm (B.blk s1 H1 C1 l1 p1) 7)) (fun s1 H1 C1 l1 p1 => (e_tuple (B.blk s1 H1 C1 l1 p1) (da_s 7)))))))) (das_cons (da_e (e_tuple B (da_s 6))) das_nil))))) B.nd)
    (dss_cons (ds_ret (e_call B A 14 (das_cons (da_e (de_tup (das_cons (da_e (e_fld B (da_s 0))) (das_cons (da_e (e_fld B (da_s 0))) (das_cons (da_e (e_fld B (da_s 0))) (das_cons (da_e (e_fld B (da_s 0))) das_nil)))))) (das_cons (da_e (de_var 2)) das_nil)) Z.g__law_same))
    dss_nil)))
  exact h
theorem sc_Machine___len__ : FnScope ["self"] ["self"] (defScope (inClass (top 26) 6)) := ⟨rfl, rfl, rfl, by decide +kernel, rfl, by decide +kernel, by decide +kernel⟩
theorem b_Machine___len__ {P : Program} {w : World} {K : PySem.W.Frag} {mg : Str → Option Value} {base : Heap} {calls : Calls} {k : Nat} (Z : Fx K mg) (A : Alls P w K mg base (ca K) T defs calls k) (KW_count_texts : KwOk P w K mg base (ca K) T calls k 18 ("count_texts", none) ["machine", "length"] ["machine", "length"]) (fa : Addr) (cdv : Value) (Ar : Around) (outer : List PySem.Env) (s : Shared) (H : Hp) (E : XK)
    (go : Go (CB P w K mg base ["self"] "Machine.__len__" (defScope (inClass (top 26) 6)) fa cdv Ar outer s H E) (ca K) T calls (fun cls d _ H => E cls d H) k)
    (po : PassesOwn (model P w) (CB P w K mg base ["self"] "Machine.__len__" (defScope (inClass (top 26) 6)) fa cdv Ar outer s H E).A (CB P w K mg base ["self"] "Machine.__len__" (defScope (inClass (top 26) 6)) fa cdv Ar outer s H E).env (CB P w K mg base ["self"] "Machine.__len__" (defScope (inClass (top 26) 6)) fa cdv Ar outer s H E).xe) :
    DSs (CB P w K mg base ["self"] "Machine.__len__" (defScope (inClass (top 26) 6)) fa cdv Ar outer s H E) (fun cls d _ H => E cls d H) (ca K) T calls f_Machine___len__.ro (defBody (inClass (top 26) 6)) f_Machine___len__.body := by
  have B : Bd (CB P w K mg base ["self"] "Machine.__len__" (defScope (inClass (top 26) 6)) fa cdv Ar outer s H E) (ca K) T calls (fun cls d _ H => E cls d H) k := ⟨go, sc_Machine___len__.nd, rfl, Z.bi, attr_ok Z⟩
  have h : DSs (CB P w K mg base ["self"] "Machine.__len__" (defScope (inClass (top 26) 6)) fa cdv Ar outer s H E) (fun cls d _ H => E cls d H) (ca K) T calls false (defBody (inClass (top 26) 6)) _ := (dss_cons (ds_ret (e_len B (da_e (e_fld B (da_s 0)))))
    dss_nil)
  exact h
theorem sc__sum_of : FnScope ["word", "reached", "verdicts", "many", "verdict"] ["word", "reached", "verdicts"] (defScope (top 18)) := ⟨rfl, rfl, rfl, by decide +kernel, rfl, by decide +kernel, by decide +kernel⟩
theorem b__sum_of {P : Program} {w : World} {K : PySem.W.Frag} {mg : Str → Option Value} {base : Heap} {calls : Calls} {k : Nat} (Z : Fx K mg) (A : Alls P w K mg base (ca K) T defs calls k) (KW_count_texts : KwOk P w K mg base (ca K) T calls k 18 ("count_texts", none) ["machine", "length"] ["machine", "length"]) (fa : Addr) (cdv : Value) (Ar : Around) (outer : List PySem.Env) (s : Shared) (H : Hp) (E : XK)
    (go : Go (CB P w K mg base ["word", "reached", "verdicts", "many", "verdict"] "_sum_of" (defScope (top 18)) fa cdv Ar outer s H E) (ca K) T calls (fun cls d _ H => E cls d H) k)
    (po : PassesOwn (model P w) (CB P w K mg base ["word", "reached", "verdicts", "many", "verdict"] "_sum_of" (defScope (top 18)) fa cdv Ar outer s H E).A (CB P w K mg base ["word", "reached", "verdicts", "many", "verdict"] "_sum_of" (defScope (top 18)) fa cdv Ar outer s H E).env (CB P w K mg base ["word", "reached", "verdicts", "many", "verdict"] "_sum_of" (defScope (top 18)) fa cdv Ar outer s H E).xe) :
    DSs (CB P w K mg base ["word", "reached", "verdicts", "many", "verdict"] "_sum_of" (defScope (top 18)) fa cdv Ar outer s H E) (fun cls d _ H => E cls d H) (ca K) T calls f__sum_of.ro (defBody (top 18)) f__sum_of.body := by
  have B : Bd (CB P w K mg base ["word", "reached", "verdicts", "many", "verdict"] "_sum_of" (defScope (top 18)) fa cdv Ar outer s H E) (ca K) T calls (fun cls d _ H => E cls d H) k := ⟨go, sc__sum_of.nd, rfl, Z.bi, attr_ok Z⟩
  have h : DSs (CB P w K mg base ["word", "reached", "verdicts", "many", "verdict"] "_sum_of" (defScope (top 18)) fa cdv Ar outer s H E) (fun cls d _ H => E cls d H) (ca K) T calls false (defBody (top 18)) _ := (dss_cons (ds_ret (e_sum B (da_e (de_fr (do_lci B.calm B.nd (i_zip B (de_var 1) (de_var 2)) (blkOk_by (own := [("many", 3), ("verdict", 4)]) (by kernel_rfl)) (fun s1 H1 C1 l1 p1 => (g_tup (B.blk s1 H1 C1 l1 p1) (g_c (B.blk s1 H1 C1 l1 p1) 3 (g_c (B.blk s1 H1 C1 l1 p1) 4 pgs_no)))) (fun s1 H1 C1 l1 p1 => (t_eq (B.blk s1 H1 C1 l1 p1) (da_s 4) (da_s 0))) (fun s1 H1 C1 l1 p1 => (de_var 3)))))))
    dss_nil)
  exact h
theorem sc_count_texts : FnScope ["machine", "length", "reached", "_", "following", "many", "row", "state", "word"] ["machine", "length"] (defScope (top 17)) := ⟨rfl, rfl, rfl, by decide +kernel, rfl, by decide +kernel, by decide +kernel⟩
theorem b_count_texts {P : Program} {w : World} {K : PySem.W.Frag} {mg : Str → Option Value} {base : Heap} {calls : Calls} {k : Nat} (Z : Fx K mg) (A : Alls P w K mg base (ca K) T defs calls k) (KW_count_texts : KwOk P w K mg base (ca K) T calls k 18 ("count_texts", none) ["machine", "length"] ["machine", "length"]) (fa : Addr) (cdv : Value) (Ar : Around) (outer : List PySem.Env) (s : Shared) (H : Hp) (E : XK)
    (go : Go (CB P w K mg base ["machine", "length", "reached", "_", "following", "many", "row", "state", "word"] "count_texts" (defScope (top 17)) fa cdv Ar outer s H E) (ca K) T calls (fun cls d _ H => E cls d H) k)
    (po : PassesOwn (model P w) (CB P w K mg base ["machine", "length", "reached", "_", "following", "many", "row", "state", "word"] "count_texts" (defScope (top 17)) fa cdv Ar outer s H E).A (CB P w K mg base ["machine", "length", "reached", "_", "following", "many", "row", "state", "word"] "count_texts" (defScope (top 17)) fa cdv Ar outer s H E).env (CB P w K mg base ["machine", "length", "reached", "_", "following", "many", "row", "state", "word"] "count_texts" (defScope (top 17)) fa cdv Ar outer s H E).xe) :
    DSs (CB P w K mg base ["machine", "length", "reached", "_", "following", "many", "row", "state", "word"] "count_texts" (defScope (top 17)) fa cdv Ar outer s H E) (fun cls d _ H => E cls d H) (ca K) T calls f_count_texts.ro (defBody (top 17)) f_count_texts.body := by
  have B : Bd (CB P w K mg base ["machine", "length", "reached", "_", "following", "many", "row", "state", "word"] "count_texts" (defScope (top 17)) fa cdv Ar outer s H E) (ca K) T calls (fun cls d _ H => E cls d H) k := ⟨go, sc_count_texts.nd, rfl, Z.bi, attr_ok Z⟩
  have h : DSs (CB P w K mg base ["machine", "length", "reached", "_", "following", "many", "row", "state", "word"] "count_texts" (defScope (top 17)) fa cdv Ar outer s H E) (fun cls d _ H => E cls d H) (ca K) T calls false (defBody (top 17)) _ := (dss_cons (ds_setO (i := 2) (o_rep B (da_e (de_fr (do_lst (das_cons (da_e de_int) das_nil)))) (da_e (e_olen B (m_len Z A) (de_var 0)))) B.nd)
    (dss_cons (ds_put B.hu1 (vr 2) (e_fld B (da_s 0)) de_int)
    (dss_cons (ds_for po B.calm (i_rng1 B (de_var 1)) (g_nm B 3) (dss_cons (ds_setO (i := 4) (o_rep B (da_e (de_fr (do_lst (das_cons (da_e de_int) das_nil)))) (da_e (e_olen B (m_len Z A) (de_var 0)))) B.nd)
    (dss_cons (ds_for po B.calm (i_zip B (de_var 2) (e_fld B (da_s 0))) (g_tup B (g_c B 5 (g_c B 6 pgs_no))) (dss_cons (ds_for po B.calm (di_seq (de_var 6)) (g_nm B 7) (dss_cons (ds_augI B.hu1 (vr 4) (de_var 7) (de_var 5) ip_addD s_add)
    dss_nil))
    dss_nil))
    (dss_cons (ds_set (i := 2) (de_var 4) B.nd)
    dss_nil))))
    (dss_cons (ds_ret (e_tuple B (da_e (de_fr (do_lc B.calm B.nd (di_seq (k_WORDS Z)) (blkOk_by (own := [("word", 8)]) (by kernel_rfl)) (fun s1 H1 C1 l1 p1 => (g_nm (B.blk s1 H1 C1 l1 p1) 8)) (fun s1 H1 C1 l1 p1 => (e_call (B.blk s1 H1 C1 l1 p1) A 17 (das_cons (da_e (de_var 8)) (das_cons (da_e (de_var 2)) (das_cons (da_e (e_fld (B.blk s1 H1 C1 l1 p1) (da_s 0))) das_nil))) Z.g__sum_of)))))))
    dss_nil))))
  exact h
theorem sc__law_listed : FnScope ["given", "length", "states", "turn", "told", "abc", "start", "steps", "words", "reached", "p"] ["given", "length"] (defScope (top 40)) := ⟨rfl, rfl, rfl, by decide +kernel, rfl, by decide +kernel, by decide +kernel⟩
theorem b__law_listed {P : Program} {w : World} {K : PySem.W.Frag} {mg : Str → Option Value} {base : Heap} {calls : Calls} {k : Nat} (Z : Fx K mg) (A : Alls P w K mg base (ca K) T defs calls k) (KW_count_texts : KwOk P w K mg base (ca K) T calls k 18 ("count_texts", none) ["machine", "length"] ["machine", "length"]) (fa : Addr) (cdv : Value) (Ar : Around) (outer : List PySem.Env) (s : Shared) (H : Hp) (E : XK)
    (go : Go (CB P w K mg base ["given", "length", "states", "turn", "told", "abc", "start", "steps", "words", "reached", "p"] "_law_listed" (defScope (top 40)) fa cdv Ar outer s H E) (ca K) T calls (fun cls d _ H => E cls d H) k)
    (po : PassesOwn (model P w) (CB P w K mg base ["given", "length", "states", "turn", "told", "abc", "start", "steps", "words", "reached", "p"] "_law_listed" (defScope (top 40)) fa cdv Ar outer s H E).A (CB P w K mg base ["given", "length", "states", "turn", "told", "abc", "start", "steps", "words", "reached", "p"] "_law_listed" (defScope (top 40)) fa cdv Ar outer s H E).env (CB P w K mg base ["given", "length", "states", "turn", "told", "abc", "start", "steps", "words", "reached", "p"] "_law_listed" (defScope (top 40)) fa cdv Ar outer s H E).xe) :
    DSs (CB P w K mg base ["given", "length", "states", "turn", "told", "abc", "start", "steps", "words", "reached", "p"] "_law_listed" (defScope (top 40)) fa cdv Ar outer s H E) (fun cls d _ H => E cls d H) (ca K) T calls f__law_listed.ro (defBody (top 40)) f__law_listed.body := by
  have B : Bd (CB P w K mg base ["given", "length", "states", "turn", "told", "abc", "start", "steps", "words", "reached", "p"] "_law_listed" (defScope (top 40)) fa cdv Ar outer s H E) (ca K) T calls (fun cls d _ H => E cls d H) k := ⟨go, sc__law_listed.nd, rfl, Z.bi, attr_ok Z⟩
  have h : DSs (CB P w K mg base ["given", "length", "states", "turn", "told", "abc", "start", "steps", "words", "reached", "p"] "_law_listed" (defScope (top 40)) fa cdv Ar outer s H E) (fun cls d _ H => E cls d H) (ca K) T calls false (defBody (top 40)) _ := (dss_cons (ds_unpL (de_var 0) B.calm (g_c B 5 (g_c B 6 (g_c B 7 (g_c B 8 pgs_no)))))
    (dss_cons (ds_set (i := 2) (de_fr (do_lst (das_cons (da_e (de_var 6)) das_nil))) B.nd)
    (dss_cons (ds_for po B.calm (i_rng1 B (de_var 1)) (g_nm B 3) (dss_cons (ds_setO (i := 9) (do_lst das_nil) B.nd)
    (dss_cons (ds_for po B.calm (di_seq (de_var 2)) (g_nm B 10) (dss_cons (ds_expr (e_extend B (da_e (e_idx B (da_s 7) (da_s 10))) (vr 9)))
    dss_nil))
    (dss_cons (ds_set (i := 2) (de_fr (o_list B (da_s 9))) B.nd)
    dss_nil))))
    (dss_cons (ds_setLc (i := 4) B.calm B.nd (di_seq (de_var 2)) (blkOk_by (own := [("p", 10)]) (by kernel_rfl)) (fun s1 H1 C1 l1 p1 => (g_nm (B.blk s1 H1 C1 l1 p1) 10)) (fun s1 H1 C1 l1 p1 => (e_idx (B.blk s1 H1 C1 l1 p1) (da_s 8) (da_s 10))))
    (dss_cons (ds_ret (de_tup (das_cons (da_e (de_cnt (da_s 4) pe_str (fun _ => .str _))) (das_cons (da_e (de_cnt (da_s 4) pe_str (fun _ => .str _))) (das_cons (da_e (de_cnt (da_s 4) pe_str (fun _ => .str _))) das_nil)))))
    dss_nil)))))
  exact h
theorem sc__law_ways : FnScope ["given", "word", "length", "ways", "turn", "abc", "start", "steps", "words", "longer", "row", "told", "to"] ["given", "word", "length"] (defScope (top 41)) := ⟨rfl, rfl, rfl, by decide +kernel, rfl, by decide +kernel, by decide +kernel⟩
theorem b__law_ways {P : Program} {w : World} {K : PySem.W.Frag} {mg : Str → Option Value} {base : Heap} {calls : Calls} {k : Nat} (Z : Fx K mg) (A : Alls P w K mg base (ca K) T defs calls k) (KW_count_texts : KwOk P w K mg base (ca K) T calls k 18 ("count_texts", none) ["machine", "length"] ["machine", "length"]) (fa : Addr) (cdv : Value) (Ar : Around) (outer : List PySem.Env) (s : Shared) (H : Hp) (E : XK)
    (go : Go (CB P w K mg base ["given", "word", "length", "ways", "turn", "abc", "start", "steps", "words", "longer", "row", "told", "to"] "_law_ways" (defScope (top 41)) fa cdv Ar outer s H E) (ca K) T calls (fun cls d _ H => E cls d H) k)
    (po : PassesOwn (model P w) (CB P w K mg base ["given", "word", "length", "ways", "turn", "abc", "start", "steps", "words", "longer", "row", "told", "to"] "_law_ways" (defScope (top 41)) fa cdv Ar outer s H E).A (CB P w K mg base ["given", "word", "length", "ways", "turn", "abc", "start", "steps", "words", "longer", "row", "told", "to"] "_law_ways" (defScope (top 41)) fa cdv Ar outer s H E).env (CB P w K mg base ["given", "word", "length", "ways", "turn", "abc", "start", "steps", "words", "longer", "row", "told", "to"] "_law_ways" (defScope (top 41)) fa cdv Ar outer s H E).xe) :
    DSs (CB P w K mg base ["given", "word", "length", "ways", "turn", "abc", "start", "steps", "words", "longer", "row", "told", "to"] "_law_ways" (defScope (top 41)) fa cdv Ar outer s H E) (fun cls d _ H => E cls d H) (ca K) T calls f__law_ways.ro (defBody (top 41)) f__law_ways.body := by
  have B : Bd (CB P w K mg base ["given", "word", "length", "ways", "turn", "abc", "start", "steps", "words", "longer", "row", "told", "to"] "_law_ways" (defScope (top 41)) fa cdv Ar outer s H E) (ca K) T calls (fun cls d _ H => E cls d H) k := ⟨go, sc__law_ways.nd, rfl, Z.bi, attr_ok Z⟩
  have h : DSs (CB P w K mg base ["given", "word", "length", "ways", "turn", "abc", "start", "steps", "words", "longer", "row", "told", "to"] "_law_ways" (defScope (top 41)) fa cdv Ar outer s H E) (fun cls d _ H => E cls d H) (ca K) T calls false (defBody (top 41)) _ := (dss_cons (ds_unpL (de_var 0) B.calm (g_c B 5 (g_c B 6 (g_c B 7 (g_c B 8 pgs_no)))))
    (dss_cons (ds_setO (i := 3) (do_lc B.calm B.nd (di_seq (de_var 8)) (blkOk_by (own := [("told", 11)]) (by kernel_rfl)) (fun s2 H2 C2 l2 p2 => (g_nm (B.blk s2 H2 C2 l2 p2) 11)) (fun s2 H2 C2 l2 p2 => (e_int (B.blk s2 H2 C2 l2 p2) (da_e (e_eq (B.blk s2 H2 C2 l2 p2) (da_s 11) (da_s 1)))))) B.nd)
    (dss_cons (ds_for po B.calm (i_rng1 B (de_var 2)) (g_nm B 4) (dss_cons (ds_setO (i := 9) (do_lst das_nil) B.nd)
    (dss_cons (ds_for po B.calm (di_seq (de_var 7)) (g_nm B 10) (dss_cons (ds_expr (e_append B (da_e (e_sum B (da_e (de_fr (do_lc B.calm B.nd (di_seq (de_var 10)) (blkOk_by (own := [("to", 12)]) (by kernel_rfl)) (fun s1 H1 C1 l1 p1 => (g_nm (B.blk s1 H1 C1 l1 p1) 12)) (fun s1 H1 C1 l1 p1 => (e_idx (B.blk s1 H1 C1 l1 p1) (da_s 3) (da_s 12)))))))) (vr 9)))
    dss_nil))
    (dss_cons (ds_set (i := 3) (de_var 9) B.nd)
    dss_nil))))
    (dss_cons (ds_ret (e_idx B (da_s 3) (da_s 6)))
    dss_nil))))
  exact h
theorem sc__law_sums : FnScope ["given", "length", "word"] ["given", "length"] (defScope (top 42)) := ⟨rfl, rfl, rfl, by decide +kernel, rfl, by decide +kernel, by decide +kernel⟩
theorem b__law_sums {P : Program} {w : World} {K : PySem.W.Frag} {mg : Str → Option Value} {base : Heap} {calls : Calls} {k : Nat} (Z : Fx K mg) (A : Alls P w K mg base (ca K) T defs calls k) (KW_count_texts : KwOk P w K mg base (ca K) T calls k 18 ("count_texts", none) ["machine", "length"] ["machine", "length"]) (fa : Addr) (cdv : Value) (Ar : Around) (outer : List PySem.Env) (s : Shared) (H : Hp) (E : XK)
    (go : Go (CB P w K mg base ["given", "length", "word"] "_law_sums" (defScope (top 42)) fa cdv Ar outer s H E) (ca K) T calls (fun cls d _ H => E cls d H) k)
    (po : PassesOwn (model P w) (CB P w K mg base ["given", "length", "word"] "_law_sums" (defScope (top 42)) fa cdv Ar outer s H E).A (CB P w K mg base ["given", "length", "word"] "_law_sums" (defScope (top 42)) fa cdv Ar outer s H E).env (CB P w K mg base ["given", "length", "word"] "_law_sums" (defScope (top 42)) fa cdv Ar outer s H E).xe) :
    DSs (CB P w K mg base ["given", "length", "word"] "_law_sums" (defScope (top 42)) fa cdv Ar outer s H E) (fun cls d _ H => E cls d H) (ca K) T calls f__law_sums.ro (defBody (top 42)) f__law_sums.body := by
  have B : Bd (CB P w K mg base ["given", "length", "word"] "_law_sums" (defScope (top 42)) fa cdv Ar outer s H E) (ca K) T calls (fun cls d _ H => E cls d H) k := ⟨go, sc__law_sums.nd, rfl, Z.bi, attr_ok Z⟩
  have h : DSs (CB P w K mg base ["given", "length", "word"] "_law_sums" (defScope (top 42)) fa cdv Ar outer s H E) (fun cls d _ H => E cls d H) (ca K) T calls false (defBody (top 42)) _ := (dss_cons (ds_ret (e_tuple B (da_e (de_fr (do_lc B.calm B.nd (di_seq (de_fr (do_lst (das_cons (da_e de_str) (das_cons (da_e de_str) (das_cons (da_e de_str) das_nil)))))) (blkOk_by (own := [("word", 2)]) (by kernel_rfl)) (fun s1 H1 C1 l1 p1 => (g_nm (B.blk s1 H1 C1 l1 p1) 2)) (fun s1 H1 C1 l1 p1 => (e_call (B.blk s1 H1 C1 l1 p1) A 20 (das_cons (da_e (de_var 0)) (das_cons (da_e (de_var 2)) (das_cons (da_e (de_var 1)) das_nil))) Z.g__law_ways)))))))
    dss_nil)
  exact h
theorem sc_law : FnScope ["script", "pool", "great", "lengths", "one", "two", "far", "size", "k", "first", "second", "told", "due", "cell"] ["script"] (defScope (top 44)) := ⟨rfl, rfl, rfl, by decide +kernel, rfl, by decide +kernel, by decide +kernel⟩
theorem b_law {P : Program} {w : World} {K : PySem.W.Frag} {mg : Str → Option Value} {base : Heap} {calls : Calls} {k : Nat} (Z : Fx K mg) (A : Alls P w K mg base (ca K) T defs calls k) (KW_count_texts : KwOk P w K mg base (ca K) T calls k 18 ("count_texts", none) ["machine", "length"] ["machine", "length"]) (fa : Addr) (cdv : Value) (Ar : Around) (outer : List PySem.Env) (s : Shared) (H : Hp) (E : XK)
    (go : Go (CB P w K mg base ["script", "pool", "great", "lengths", "one", "two", "far", "size", "k", "first", "second", "told", "due", "cell"] "law" (defScope (top 44)) fa cdv Ar outer s H E) (ca K) T calls (fun cls d _ H => E cls d H) k)
    (po : PassesOwn (model P w) (CB P w K mg base ["script", "pool", "great", "lengths", "one", "two", "far", "size", "k", "first", "second", "told", "due", "cell"] "law" (defScope (top 44)) fa cdv Ar outer s H E).A (CB P w K mg base ["script", "pool", "great", "lengths", "one", "two", "far", "size", "k", "first", "second", "told", "due", "cell"] "law" (defScope (top 44)) fa cdv Ar outer s H E).env (CB P w K mg base ["script", "pool", "great", "lengths", "one", "two", "far", "size", "k", "first", "second", "told", "due", "cell"] "law" (defScope (top 44)) fa cdv Ar outer s H E).xe) :
    DSs (CB P w K mg base ["script", "pool", "great", "lengths", "one", "two", "far", "size", "k", "first", "second", "told", "due", "cell"] "law" (defScope (top 44)) fa cdv Ar outer s H E) (fun cls d _ H => E cls d H) (ca K) T calls f_law.ro (defBody (top 44)) f_law.body := by
  have B : Bd (CB P w K mg base ["script", "pool", "great", "lengths", "one", "two", "far", "size", "k", "first", "second", "told", "due", "cell"] "law" (defScope (top 44)) fa cdv Ar outer s H E) (ca K) T calls (fun cls d _ H => E cls d H) k := ⟨go, sc_law.nd, rfl, Z.bi, attr_ok Z⟩
  have h : DSs (CB P w K mg base ["script", "pool", "great", "lengths", "one", "two", "far", "size", "k", "first", "second", "told", "due", "cell"] "law" (defScope (top 44)) fa cdv Ar outer s H E) (fun cls d _ H => E cls d H) (ca K) T calls false (defBody (top 44)) _ := (dss_cons (ds_setLc (i := 0) B.calm B.nd (di_seq (de_fr (do_slHi (da_s 0) (da_e de_int)))) (blkOk_by (own := [("cell", 13)]) (by kernel_rfl)) (fun s2 H2 C2 l2 p2 => (g_nm (B.blk s2 H2 C2 l2 p2) 13)) (fun s2 H2 C2 l2 p2 => (e_int (B.blk s2 H2 C2 l2 p2) (da_s 13))))
    (dss_cons (ds_setO (i := 1) (do_rev (da_e (de_fr (do_lc B.calm B.nd (di_seq (de_var 0)) (blkOk_by (own := [("cell", 13)]) (by kernel_rfl)) (fun s1 H1 C1 l1 p1 => (g_nm (B.blk s1 H1 C1 l1 p1) 13)) (fun s1 H1 C1 l1 p1 => (e_mod (B.blk s1 H1 C1 l1 p1) (da_e (e_abs (B.blk s1 H1 C1 l1 p1) (da_s 13))) (da_e (e_pow (B.blk s1 H1 C1 l1 p1) (da_e de_int) (da_e de_int))))))))) B.nd)
    (dss_cons (ds_set (i := 2) (e_eq B (da_e (e_call B A 1 (das_cons (da_s 1) (das_cons (da_e de_int) das_nil)) Z.g__law_draw)) (da_e de_int)) B.nd)
    (dss_cons (ds_set (i := 3) (de_fr (do_lst (das_cons (da_e (e_add B (da_e de_int) (da_e (e_call B A 1 (das_cons (da_s 1) (das_cons (da_e de_int) das_nil)) Z.g__law_draw)))) das_nil))) B.nd)
    (dss_cons (ds_if (t_eq B (da_e (e_call B A 1 (das_cons (da_s 1) (das_cons (da_e de_int) das_nil)) Z.g__law_draw)) (da_e de_int)) (dss_cons (ds_set (i := 3) (de_fr (do_lst (das_cons (da_e de_int) (das_cons (da_e (e_sub B (da_e de_int) (da_e (e_call B A 1 (das_cons (da_s 1) (das_cons (da_e de_int) das_nil)) Z.g__law_draw)))) das_nil)))) B.nd)
    dss_nil) dss_nil)
    (dss_cons (ds_unpL (e_call B A 4 (das_cons (da_s 1) (das_cons (da_e (de_var 2)) das_nil)) Z.g__law_two) B.calm (g_c B 9 (g_c B 10 pgs_no)))
    (dss_cons (ds_set (i := 4) (e_call B A 13 (das_cons (da_e (de_var 9)) das_nil) Z.g__law_object) B.nd)
    (dss_cons (ds_set (i := 5) (e_call B A 13 (das_cons (da_e (de_var 10)) das_nil) Z.g__law_object) B.nd)
    (dss_cons (ds_setO (i := 6) (do_lst das_nil) B.nd)
    (dss_cons (ds_for po B.calm (di_seq (de_var 3)) (g_nm B 7) (dss_cons (ds_expr (e_append B (da_e (de_tup (das_cons (da_e (e_call B A 21 (das_cons (da_e (de_var 9)) (das_cons (da_e (de_var 7)) das_nil)) Z.g__law_sums)) (das_cons (da_e (e_call B A 21 (das_cons (da_e (de_var 10)) (das_cons (da_e (de_var 7)) das_nil)) Z.g__law_sums)) das_nil)))) (vr 6)))
    dss_nil))
    (dss_cons (ds_for po B.calm (i_rng1 B (e_len B (da_s 3))) (g_nm B 8) (dss_cons (ds_set (i := 11) (de_tup (das_cons (da_e (e_call B A 18 (das_cons (da_e (de_var 4)) (das_cons (da_e (e_idx B (da_s 3) (da_s 8))) das_nil)) Z.g_count_texts)) (das_cons (da_e (e_call B A 18 (das_cons (da_e (de_var 5)) (das_cons (da_e (e_idx B (da_s 3) (da_s 8))) das_nil)) Z.g_count_texts)) das_nil))) B.nd)
    (dss_cons (ds_if (dt_not (dt_val (e_call B A 14 (das_cons (da_e (de_var 11)) (das_cons (da_e (e_idx B (da_s 6) (da_s 8))) das_nil)) Z.g__law_same))) (dss_cons (ds_ret de_bl)
    dss_nil) dss_nil)
    dss_nil)))
    (dss_cons (ds_for po B.calm (i_rng1 B (de_ifx (dt_val (de_var 2)) de_int de_int)) (g_nm B 7) (dss_cons (ds_set (i := 12) (de_tup (das_cons (da_e (e_call B A 19 (das_cons (da_e (de_var 9)) (das_cons (da_e (de_var 7)) das_nil)) Z.g__law_listed)) (das_cons (da_e (e_call B A 19 (das_cons (da_e (de_var 10)) (das_cons (da_e (de_var 7)) das_nil)) Z.g__law_listed)) das_nil))) B.nd)
    (dss_cons (ds_set (i := 11) (de_tup (das_cons (da_e (e_call B A 18 (das_cons (da_e (de_var 4)) (das_cons (da_e (de_var 7)) das_nil)) Z.g_count_texts)) (das_cons (da_e (e_callK B 18 KW_count_texts (pk_c (da_e (de_var 5)) (pk_c (da_e (de_var 7)) pk_no)) Z.g_count_texts)) das_nil))) B.nd)
    (dss_cons (ds_if (dt_not (dt_val (e_call B A 14 (das_cons (da_e (de_var 11)) (das_cons (da_e (de_var 12)) das_nil)) Z.g__law_same))) (dss_cons (ds_ret de_bl)
    dss_nil) dss_nil)
    dss_nil))))
    (dss_cons (ds_for po B.calm (i_rng1 B (e_len B (da_s 3))) (g_nm B 8) (dss_cons (ds_set (i := 11) (de_tup (das_cons (da_e (e_call B A 18 (das_cons (da_e (de_var 4)) (das_cons (da_e (e_idx B (da_s 3) (da_s 8))) das_nil)) Z.g_count_texts)) (das_cons (da_e (e_call B A 18 (das_cons (da_e (de_var 5)) (das_cons (da_e (e_idx B (da_s 3) (da_s 8))) das_nil)) Z.g_count_texts)) das_nil))) B.nd)
    (dss_cons (ds_if (dt_not (dt_val (e_call B A 14 (das_cons (da_e (de_var 11)) (das_cons (da_e (e_idx B (da_s 6) (da_s 8))) das_nil)) Z.g__law_same))) (dss_cons (ds_ret de_bl)
    dss_nil) dss_nil)
    dss_nil)))
    (dss_cons (ds_ret (de_and (e_call B A 15 (das_cons (da_e (de_var 4)) (das_cons (da_e (de_var 9)) das_nil)) Z.g__law_stays) (de_one (e_call B A 15 (das_cons (da_e (de_var 5)) (das_cons (da_e (de_var 10)) das_nil)) Z.g__law_stays))))
    dss_nil))))))))))))))
  exact h
theorem kwb_count_texts {K : PySem.W.Frag} {fa : Addr} {fd : FuncData} (D : FunD K "count_texts" "count_texts" (defArgs (top 17)) (defBody (top 17)) (defScope (top 17)) [] [] fa fd) (s : Shared) (ws : List Value) (hl : ws.length = (["machine", "length"] : List Str).length) : BindsTo s fd ⟨[], (["machine", "length"] : List Str).zip ws⟩ ((["machine", "length"] : List Str).zip ws) := by
  obtain ⟨oc, od, dV, kV, doc, pm, an, cdv, ct, osl, rfl, _, _, hD, _⟩ := D.ex
  rcases hD with ⟨_, rfl⟩ | ⟨e, _⟩
  · match ws, hl with
    | [_, _], _ => exact .of_eq rfl
  · exact absurd rfl e
section
variable {P : Program} {w : World} {K : PySem.W.Frag} {mg : Str → Option Value} {base : Heap} {calls calls' : Calls} {k : Nat}
theorem g__law_outside (Z : Fx K mg) (A : Alls P w K mg base (ca K) T defs calls k) (KW_count_texts : KwOk P w K mg base (ca K) T calls k 18 ("count_texts", none) ["machine", "length"] ["machine", "length"]) (hr : ∀ f c ds, T.code f = some c → calls' f ds = runC T calls c ds) : ∃ fd, FnG P w K mg base (k + 2) (He.fAd K ("_law_outside", none)) fd ["abc"] (spF K (ca K) T calls' 0) ∧ Binds K fd ["abc"] [] ∧ PySem.W.keepIn K (.ref (He.fAd K ("_law_outside", none))) = true := by
  obtain ⟨fd, D⟩ := Z.d__law_outside
  exact ⟨fd, fnG_of D sc__law_outside rfl rfl rfl (fun ds => hr _ _ ds rfl) fun cdv Ar outer s H E go po => b__law_outside Z A KW_count_texts _ cdv Ar outer s H E go po, D.bindsN fun _ _ _ _ _ _ us hl => match us, hl with | [_], _ => rfl, D.kp⟩
theorem g__law_draw (Z : Fx K mg) (A : Alls P w K mg base (ca K) T defs calls k) (KW_count_texts : KwOk P w K mg base (ca K) T calls k 18 ("count_texts", none) ["machine", "length"] ["machine", "length"]) (hr : ∀ f c ds, T.code f = some c → calls' f ds = runC T calls c ds) : ∃ fd, FnG P w K mg base (k + 2) (He.fAd K ("_law_draw", none)) fd ["pool", "many"] (spF K (ca K) T calls' 1) ∧ Binds K fd ["pool", "many"] [] ∧ PySem.W.keepIn K (.ref (He.fAd K ("_law_draw", none))) = true := by
  obtain ⟨fd, D⟩ := Z.d__law_draw
  exact ⟨fd, fnG_of D sc__law_draw rfl rfl rfl (fun ds => hr _ _ ds rfl) fun cdv Ar outer s H E go po => b__law_draw Z A KW_count_texts _ cdv Ar outer s H E go po, D.bindsN fun _ _ _ _ _ _ us hl => match us, hl with | [_, _], _ => rfl, D.kp⟩
theorem g__law_pick_letters (Z : Fx K mg) (A : Alls P w K mg base (ca K) T defs calls k) (KW_count_texts : KwOk P w K mg base (ca K) T calls k 18 ("count_texts", none) ["machine", "length"] ["machine", "length"]) (hr : ∀ f c ds, T.code f = some c → calls' f ds = runC T calls c ds) : ∃ fd, FnG P w K mg base (k + 2) (He.fAd K ("_law_pick_letters", none)) fd ["pool", "many"] (spF K (ca K) T calls' 2) ∧ Binds K fd ["pool", "many"] [] ∧ PySem.W.keepIn K (.ref (He.fAd K ("_law_pick_letters", none))) = true := by
  obtain ⟨fd, D⟩ := Z.d__law_pick_letters
  exact ⟨fd, fnG_of D sc__law_pick_letters rfl rfl rfl (fun ds => hr _ _ ds rfl) fun cdv Ar outer s H E go po => b__law_pick_letters Z A KW_count_texts _ cdv Ar outer s H E go po, D.bindsN fun _ _ _ _ _ _ us hl => match us, hl with | [_, _], _ => rfl, D.kp⟩
theorem g__law_build (Z : Fx K mg) (A : Alls P w K mg base (ca K) T defs calls k) (KW_count_texts : KwOk P w K mg base (ca K) T calls k 18 ("count_texts", none) ["machine", "length"] ["machine", "length"]) (hr : ∀ f c ds, T.code f = some c → calls' f ds = runC T calls c ds) : ∃ fd, FnG P w K mg base (k + 2) (He.fAd K ("_law_build", none)) fd ["pool", "abc", "n", "shift"] (spF K (ca K) T calls' 3) ∧ Binds K fd ["pool", "abc", "n", "shift"] [] ∧ PySem.W.keepIn K (.ref (He.fAd K ("_law_build", none))) = true := by
  obtain ⟨fd, D⟩ := Z.d__law_build
  exact ⟨fd, fnG_of D sc__law_build rfl rfl rfl (fun ds => hr _ _ ds rfl) fun cdv Ar outer s H E go po => b__law_build Z A KW_count_texts _ cdv Ar outer s H E go po, D.bindsN fun _ _ _ _ _ _ us hl => match us, hl with | [_, _, _, _], _ => rfl, D.kp⟩
theorem g__law_two (Z : Fx K mg) (A : Alls P w K mg base (ca K) T defs calls k) (KW_count_texts : KwOk P w K mg base (ca K) T calls k 18 ("count_texts", none) ["machine", "length"] ["machine", "length"]) (hr : ∀ f c ds, T.code f = some c → calls' f ds = runC T calls c ds) : ∃ fd, FnG P w K mg base (k + 2) (He.fAd K ("_law_two", none)) fd ["pool", "great"] (spF K (ca K) T calls' 4) ∧ Binds K fd ["pool", "great"] [] ∧ PySem.W.keepIn K (.ref (He.fAd K ("_law_two", none))) = true := by
  obtain ⟨fd, D⟩ := Z.d__law_two
  exact ⟨fd, fnG_of D sc__law_two rfl rfl rfl (fun ds => hr _ _ ds rfl) fun cdv Ar outer s H E go po => b__law_two Z A KW_count_texts _ cdv Ar outer s H E go po, D.bindsN fun _ _ _ _ _ _ us hl => match us, hl with | [_, _], _ => rfl, D.kp⟩
theorem g_alphabet_fault (Z : Fx K mg) (A : Alls P w K mg base (ca K) T defs calls k) (KW_count_texts : KwOk P w K mg base (ca K) T calls k 18 ("count_texts", none) ["machine", "length"] ["machine", "length"]) (hr : ∀ f c ds, T.code f = some c → calls' f ds = runC T calls c ds) : ∃ fd, FnG P w K mg base (k + 2) (He.fAd K ("alphabet_fault", none)) fd ["alphabet", "allowed"] (spF K (ca K) T calls' 5) ∧ Binds K fd ["alphabet", "allowed"] [] ∧ PySem.W.keepIn K (.ref (He.fAd K ("alphabet_fault", none))) = true := by
  obtain ⟨fd, D⟩ := Z.d_alphabet_fault
  exact ⟨fd, fnG_of D sc_alphabet_fault rfl rfl rfl (fun ds => hr _ _ ds rfl) fun cdv Ar outer s H E go po => b_alphabet_fault Z A KW_count_texts _ cdv Ar outer s H E go po, D.bindsN fun _ _ _ _ _ _ us hl => match us, hl with | [_, _], _ => rfl, D.kp⟩
theorem g_check_alphabet (Z : Fx K mg) (A : Alls P w K mg base (ca K) T defs calls k) (KW_count_texts : KwOk P w K mg base (ca K) T calls k 18 ("count_texts", none) ["machine", "length"] ["machine", "length"]) (hr : ∀ f c ds, T.code f = some c → calls' f ds = runC T calls c ds) : ∃ fd, FnG P w K mg base (k + 2) (He.fAd K ("check_alphabet", none)) fd ["alphabet"] (spF K (ca K) T calls' 6) ∧ Binds K fd ["alphabet"] [] ∧ PySem.W.keepIn K (.ref (He.fAd K ("check_alphabet", none))) = true := by
  obtain ⟨fd, D⟩ := Z.d_check_alphabet
  exact ⟨fd, fnG_of D sc_check_alphabet rfl rfl rfl (fun ds => hr _ _ ds rfl) fun cdv Ar outer s H E go po => b_check_alphabet Z A KW_count_texts _ cdv Ar outer s H E go po, D.bindsN fun _ _ _ _ _ _ us hl => match us, hl with | [_], _ => rfl, D.kp⟩
theorem g_check_state (Z : Fx K mg) (A : Alls P w K mg base (ca K) T defs calls k) (KW_count_texts : KwOk P w K mg base (ca K) T calls k 18 ("count_texts", none) ["machine", "length"] ["machine", "length"]) (hr : ∀ f c ds, T.code f = some c → calls' f ds = runC T calls c ds) : ∃ fd, FnG P w K mg base (k + 2) (He.fAd K ("check_state", none)) fd ["state", "count"] (spF K (ca K) T calls' 7) ∧ Binds K fd ["state", "count"] [] ∧ PySem.W.keepIn K (.ref (He.fAd K ("check_state", none))) = true := by
  obtain ⟨fd, D⟩ := Z.d_check_state
  exact ⟨fd, fnG_of D sc_check_state rfl rfl rfl (fun ds => hr _ _ ds rfl) fun cdv Ar outer s H E go po => b_check_state Z A KW_count_texts _ cdv Ar outer s H E go po, D.bindsN fun _ _ _ _ _ _ us hl => match us, hl with | [_, _], _ => rfl, D.kp⟩
theorem g_checked_states (Z : Fx K mg) (A : Alls P w K mg base (ca K) T defs calls k) (KW_count_texts : KwOk P w K mg base (ca K) T calls k 18 ("count_texts", none) ["machine", "length"] ["machine", "length"]) (hr : ∀ f c ds, T.code f = some c → calls' f ds = runC T calls c ds) : ∃ fd, FnG P w K mg base (k + 2) (He.fAd K ("checked_states", none)) fd ["given", "count"] (spF K (ca K) T calls' 8) ∧ Binds K fd ["given", "count"] [] ∧ PySem.W.keepIn K (.ref (He.fAd K ("checked_states", none))) = true := by
  obtain ⟨fd, D⟩ := Z.d_checked_states
  exact ⟨fd, fnG_of D sc_checked_states rfl rfl rfl (fun ds => hr _ _ ds rfl) fun cdv Ar outer s H E go po => b_checked_states Z A KW_count_texts _ cdv Ar outer s H E go po, D.bindsN fun _ _ _ _ _ _ us hl => match us, hl with | [_, _], _ => rfl, D.kp⟩
theorem g_checked_steps (Z : Fx K mg) (A : Alls P w K mg base (ca K) T defs calls k) (KW_count_texts : KwOk P w K mg base (ca K) T calls k 18 ("count_texts", none) ["machine", "length"] ["machine", "length"]) (hr : ∀ f c ds, T.code f = some c → calls' f ds = runC T calls c ds) : ∃ fd, FnG P w K mg base (k + 2) (He.fAd K ("checked_steps", none)) fd ["steps", "count", "width"] (spF K (ca K) T calls' 9) ∧ Binds K fd ["steps", "count", "width"] [] ∧ PySem.W.keepIn K (.ref (He.fAd K ("checked_steps", none))) = true := by
  obtain ⟨fd, D⟩ := Z.d_checked_steps
  exact ⟨fd, fnG_of D sc_checked_steps rfl rfl rfl (fun ds => hr _ _ ds rfl) fun cdv Ar outer s H E go po => b_checked_steps Z A KW_count_texts _ cdv Ar outer s H E go po, D.bindsN fun _ _ _ _ _ _ us hl => match us, hl with | [_, _, _], _ => rfl, D.kp⟩
theorem g_check_verdict (Z : Fx K mg) (A : Alls P w K mg base (ca K) T defs calls k) (KW_count_texts : KwOk P w K mg base (ca K) T calls k 18 ("count_texts", none) ["machine", "length"] ["machine", "length"]) (hr : ∀ f c ds, T.code f = some c → calls' f ds = runC T calls c ds) : ∃ fd, FnG P w K mg base (k + 2) (He.fAd K ("check_verdict", none)) fd ["verdict"] (spF K (ca K) T calls' 10) ∧ Binds K fd ["verdict"] [] ∧ PySem.W.keepIn K (.ref (He.fAd K ("check_verdict", none))) = true := by
  obtain ⟨fd, D⟩ := Z.d_check_verdict
  exact ⟨fd, fnG_of D sc_check_verdict rfl rfl rfl (fun ds => hr _ _ ds rfl) fun cdv Ar outer s H E go po => b_check_verdict Z A KW_count_texts _ cdv Ar outer s H E go po, D.bindsN fun _ _ _ _ _ _ us hl => match us, hl with | [_], _ => rfl, D.kp⟩
theorem g_checked_verdicts (Z : Fx K mg) (A : Alls P w K mg base (ca K) T defs calls k) (KW_count_texts : KwOk P w K mg base (ca K) T calls k 18 ("count_texts", none) ["machine", "length"] ["machine", "length"]) (hr : ∀ f c ds, T.code f = some c → calls' f ds = runC T calls c ds) : ∃ fd, FnG P w K mg base (k + 2) (He.fAd K ("checked_verdicts", none)) fd ["verdicts"] (spF K (ca K) T calls' 11) ∧ Binds K fd ["verdicts"] [] ∧ PySem.W.keepIn K (.ref (He.fAd K ("checked_verdicts", none))) = true := by
  obtain ⟨fd, D⟩ := Z.d_checked_verdicts
  exact ⟨fd, fnG_of D sc_checked_verdicts rfl rfl rfl (fun ds => hr _ _ ds rfl) fun cdv Ar outer s H E go po => b_checked_verdicts Z A KW_count_texts _ cdv Ar outer s H E go po, D.bindsN fun _ _ _ _ _ _ us hl => match us, hl with | [_], _ => rfl, D.kp⟩
theorem g_Machine___init__ (Z : Fx K mg) (A : Alls P w K mg base (ca K) T defs calls k) (KW_count_texts : KwOk P w K mg base (ca K) T calls k 18 ("count_texts", none) ["machine", "length"] ["machine", "length"]) (hr : ∀ f c ds, T.code f = some c → calls' f ds = runC T calls c ds) : ∃ fd, FnG P w K mg base (k + 2) (He.fAd K ("Machine", some "__init__")) fd ["self", "alphabet", "start", "steps", "verdicts"] (spF K (ca K) T calls' 12) ∧ Binds K fd ["self", "alphabet", "start", "steps", "verdicts"] [] ∧ PySem.W.keepIn K (.ref (He.fAd K ("Machine", some "__init__"))) = true := by
  obtain ⟨fd, D⟩ := Z.d_Machine___init__
  exact ⟨fd, fnG_of D sc_Machine___init__ rfl rfl rfl (fun ds => hr _ _ ds rfl) fun cdv Ar outer s H E go po => b_Machine___init__ Z A KW_count_texts _ cdv Ar outer s H E go po, D.bindsN fun _ _ _ _ _ _ us hl => match us, hl with | [_, _, _, _, _], _ => rfl, D.kp⟩
theorem g__law_object (Z : Fx K mg) (A : Alls P w K mg base (ca K) T defs calls k) (KW_count_texts : KwOk P w K mg base (ca K) T calls k 18 ("count_texts", none) ["machine", "length"] ["machine", "length"]) (hr : ∀ f c ds, T.code f = some c → calls' f ds = runC T calls c ds) : ∃ fd, FnG P w K mg base (k + 2) (He.fAd K ("_law_object", none)) fd ["given"] (spF K (ca K) T calls' 13) ∧ Binds K fd ["given"] [] ∧ PySem.W.keepIn K (.ref (He.fAd K ("_law_object", none))) = true := by
  obtain ⟨fd, D⟩ := Z.d__law_object
  exact ⟨fd, fnG_of D sc__law_object rfl rfl rfl (fun ds => hr _ _ ds rfl) fun cdv Ar outer s H E go po => b__law_object Z A KW_count_texts _ cdv Ar outer s H E go po, D.bindsN fun _ _ _ _ _ _ us hl => match us, hl with | [_], _ => rfl, D.kp⟩
theorem g__law_same (Z : Fx K mg) (A : Alls P w K mg base (ca K) T defs calls k) (KW_count_texts : KwOk P w K mg base (ca K) T calls k 18 ("count_texts", none) ["machine", "length"] ["machine", "length"]) (hr : ∀ f c ds, T.code f = some c → calls' f ds = runC T calls c ds) : ∃ fd, FnG P w K mg base (k + 2) (He.fAd K ("_law_same", none)) fd ["told", "due"] (spF K (ca K) T calls' 14) ∧ Binds K fd ["told", "due"] [] ∧ PySem.W.keepIn K (.ref (He.fAd K ("_law_same", none))) = true := by
  obtain ⟨fd, D⟩ := Z.d__law_same
  exact ⟨fd, fnG_of D sc__law_same rfl rfl rfl (fun ds => hr _ _ ds rfl) fun cdv Ar outer s H E go po => b__law_same Z A KW_count_texts _ cdv Ar outer s H E go po, D.bindsN fun _ _ _ _ _ _ us hl => match us, hl with | [_, _], _ => rfl, D.kp⟩
theorem g__law_stays (Z : Fx K mg) (A : Alls P w K mg base (ca K) T defs calls k) (KW_count_texts : KwOk P w K mg base (ca K) T calls k 18 ("count_texts", none) ["machine", "length"] ["machine", "length"]) (hr : ∀ f c ds, T.code f = some c → calls' f ds = runC T calls c ds) : ∃ fd, FnG P w K mg base (k + 2) (He.fAd K ("_law_stays", none)) fd ["one", "given"] (spF K (ca K) T calls' 15) ∧ Binds K fd ["one", "given"] [] ∧ PySem.W.keepIn K (.ref (He.fAd K ("_law_stays", none))) = true := by
  obtain ⟨fd, D⟩ := Z.d__law_stays
  exact ⟨fd, fnG_of D sc__law_stays rfl rfl rfl (fun ds => hr _ _ ds rfl) fun cdv Ar outer s H E go po => b__law_stays Z A KW_count_texts _ cdv Ar outer s H E go po, D.bindsN fun _ _ _ _ _ _ us hl => match us, hl with | [_, _], _ => rfl, D.kp⟩
theorem g_Machine___len__ (Z : Fx K mg) (A : Alls P w K mg base (ca K) T defs calls k) (KW_count_texts : KwOk P w K mg base (ca K) T calls k 18 ("count_texts", none) ["machine", "length"] ["machine", "length"]) (hr : ∀ f c ds, T.code f = some c → calls' f ds = runC T calls c ds) : ∃ fd, FnG P w K mg base (k + 2) (He.fAd K ("Machine", some "__len__")) fd ["self"] (spF K (ca K) T calls' 16) ∧ Binds K fd ["self"] [] ∧ PySem.W.keepIn K (.ref (He.fAd K ("Machine", some "__len__"))) = true := by
  obtain ⟨fd, D⟩ := Z.d_Machine___len__
  exact ⟨fd, fnG_of D sc_Machine___len__ rfl rfl rfl (fun ds => hr _ _ ds rfl) fun cdv Ar outer s H E go po => b_Machine___len__ Z A KW_count_texts _ cdv Ar outer s H E go po, D.bindsN fun _ _ _ _ _ _ us hl => match us, hl with | [_], _ => rfl, D.kp⟩
theorem g__sum_of (Z : Fx K mg) (A : Alls P w K mg base (ca K) T defs calls k) (KW_count_texts : KwOk P w K mg base (ca K) T calls k 18 ("count_texts", none) ["machine", "length"] ["machine", "length"]) (hr : ∀ f c ds, T.code f = some c → calls' f ds = runC T calls c ds) : ∃ fd, FnG P w K mg base (k + 2) (He.fAd K ("_sum_of", none)) fd ["word", "reached", "verdicts"] (spF K (ca K) T calls' 17) ∧ Binds K fd ["word", "reached", "verdicts"] [] ∧ PySem.W.keepIn K (.ref (He.fAd K ("_sum_of", none))) = true := by
  obtain ⟨fd, D⟩ := Z.d__sum_of
  exact ⟨fd, fnG_of D sc__sum_of rfl rfl rfl (fun ds => hr _ _ ds rfl) fun cdv Ar outer s H E go po => b__sum_of Z A KW_count_texts _ cdv Ar outer s H E go po, D.bindsN fun _ _ _ _ _ _ us hl => match us, hl with | [_, _, _], _ => rfl, D.kp⟩
theorem g_count_texts (Z : Fx K mg) (A : Alls P w K mg base (ca K) T defs calls k) (KW_count_texts : KwOk P w K mg base (ca K) T calls k 18 ("count_texts", none) ["machine", "length"] ["machine", "length"]) (hr : ∀ f c ds, T.code f = some c → calls' f ds = runC T calls c ds) : ∃ fd, FnG P w K mg base (k + 2) (He.fAd K ("count_texts", none)) fd ["machine", "length"] (spF K (ca K) T calls' 18) ∧ Binds K fd ["machine", "length"] [] ∧ PySem.W.keepIn K (.ref (He.fAd K ("count_texts", none))) = true ∧ ∀ s ws, K.In s.heap → ws.length = (["machine", "length"] : List Str).length → BindsTo s fd ⟨[], (["machine", "length"] : List Str).zip ws⟩ ((["machine", "length"] : List Str).zip ws) := by
  obtain ⟨fd, D⟩ := Z.d_count_texts
  exact ⟨fd, fnG_of D sc_count_texts rfl rfl rfl (fun ds => hr _ _ ds rfl) fun cdv Ar outer s H E go po => b_count_texts Z A KW_count_texts _ cdv Ar outer s H E go po, D.bindsN fun _ _ _ _ _ _ us hl => match us, hl with | [_, _], _ => rfl, D.kp, fun s ws _ hl => kwb_count_texts D s ws hl⟩
theorem g__law_listed (Z : Fx K mg) (A : Alls P w K mg base (ca K) T defs calls k) (KW_count_texts : KwOk P w K mg base (ca K) T calls k 18 ("count_texts", none) ["machine", "length"] ["machine", "length"]) (hr : ∀ f c ds, T.code f = some c → calls' f ds = runC T calls c ds) : ∃ fd, FnG P w K mg base (k + 2) (He.fAd K ("_law_listed", none)) fd ["given", "length"] (spF K (ca K) T calls' 19) ∧ Binds K fd ["given", "length"] [] ∧ PySem.W.keepIn K (.ref (He.fAd K ("_law_listed", none))) = true := by
  obtain ⟨fd, D⟩ := Z.d__law_listed
  exact ⟨fd, fnG_of D sc__law_listed rfl rfl rfl (fun ds => hr _ _ ds rfl) fun cdv Ar outer s H E go po => b__law_listed Z A KW_count_texts _ cdv Ar outer s H E go po, D.bindsN fun _ _ _ _ _ _ us hl => match us, hl with | [_, _], _ => rfl, D.kp⟩
theorem g__law_ways (Z : Fx K mg) (A : Alls P w K mg base (ca K) T defs calls k) (KW_count_texts : KwOk P w K mg base (ca K) T calls k 18 ("count_texts", none) ["machine", "length"] ["machine", "length"]) (hr : ∀ f c ds, T.code f = some c → calls' f ds = runC T calls c ds) : ∃ fd, FnG P w K mg base (k + 2) (He.fAd K ("_law_ways", none)) fd ["given", "word", "length"] (spF K (ca K) T calls' 20) ∧ Binds K fd ["given", "word", "length"] [] ∧ PySem.W.keepIn K (.ref (He.fAd K ("_law_ways", none))) = true := by
  obtain ⟨fd, D⟩ := Z.d__law_ways
  exact ⟨fd, fnG_of D sc__law_ways rfl rfl rfl (fun ds => hr _ _ ds rfl) fun cdv Ar outer s H E go po => b__law_ways Z A KW_count_texts _ cdv Ar outer s H E go po, D.bindsN fun _ _ _ _ _ _ us hl => match us, hl with | [_, _, _], _ => rfl, D.kp⟩
theorem g__law_sums (Z : Fx K mg) (A : Alls P w K mg base (ca K) T defs calls k) (KW_count_texts : KwOk P w K mg base (ca K) T calls k 18 ("count_texts", none) ["machine", "length"] ["machine", "length"]) (hr : ∀ f c ds, T.code f = some c → calls' f ds = runC T calls c ds) : ∃ fd, FnG P w K mg base (k + 2) (He.fAd K ("_law_sums", none)) fd ["given", "length"] (spF K (ca K) T calls' 21) ∧ Binds K fd ["given", "length"] [] ∧ PySem.W.keepIn K (.ref (He.fAd K ("_law_sums", none))) = true := by
  obtain ⟨fd, D⟩ := Z.d__law_sums
  exact ⟨fd, fnG_of D sc__law_sums rfl rfl rfl (fun ds => hr _ _ ds rfl) fun cdv Ar outer s H E go po => b__law_sums Z A KW_count_texts _ cdv Ar outer s H E go po, D.bindsN fun _ _ _ _ _ _ us hl => match us, hl with | [_, _], _ => rfl, D.kp⟩
theorem g_law (Z : Fx K mg) (A : Alls P w K mg base (ca K) T defs calls k) (KW_count_texts : KwOk P w K mg base (ca K) T calls k 18 ("count_texts", none) ["machine", "length"] ["machine", "length"]) (hr : ∀ f c ds, T.code f = some c → calls' f ds = runC T calls c ds) : ∃ fd, FnG P w K mg base (k + 2) (He.fAd K ("law", none)) fd ["script"] (spF K (ca K) T calls' 22) ∧ Binds K fd ["script"] [] ∧ PySem.W.keepIn K (.ref (He.fAd K ("law", none))) = true := by
  obtain ⟨fd, D⟩ := Z.d_law
  exact ⟨fd, fnG_of D sc_law rfl rfl rfl (fun ds => hr _ _ ds rfl) fun cdv Ar outer s H E go po => b_law Z A KW_count_texts _ cdv Ar outer s H E go po, D.bindsN fun _ _ _ _ _ _ us hl => match us, hl with | [_], _ => rfl, D.kp⟩
end
section
variable {P : Program} {w : World} {K : PySem.W.Frag} {mg : Str → Option Value} {base : Heap}
/-- all defs, so many calls deep -/
structure Ok (P : Program) (w : World) (K : PySem.W.Frag) (mg : Str → Option Value) (base : Heap) (n : Nat) : Prop where
  all : Alls P w K mg base (ca K) T defs (run T n) (2 * n)
  kw_count_texts : KwOk P w K mg base (ca K) T (run T n) (2 * n) 18 ("count_texts", none) ["machine", "length"] ["machine", "length"]
theorem run_hr (n : Nat) : ∀ f c ds, T.code f = some c → run T (n + 1) f ds = runC T (run T n) c ds := fun f c ds h => by
  show (match T.code f with
    | some c => runC T (run T n) c ds
    | none => none) = _
  rw [h]
theorem ok0 (Z : Fx K mg) : Ok P w K mg base 0 := by
  have no : ∀ {f : Nat} {vs : List V} {H : Hp} {Q : VK} {E : XK}, ¬ spF K (ca K) T (run T 0) f vs H Q E := fun ⟨_, _, _, _, _, _, _, _, h, _⟩ => by cases h
  have gn : ∀ {f : Nat} {fa : Addr} {fd : FuncData} {ps : List Str}, FnG P w K mg base (2 * 0) fa fd ps (spF K (ca K) T (run T 0) f) := ⟨fun vs H Q E h => (no h).elim, fun A fr s H args us vs Q E _ _ _ _ _ h => (no h).elim⟩
  have al : Alls P w K mg base (ca K) T defs (run T 0) (2 * 0) := fun f p ps h => by
    match f, h with
    | 0, h =>
      cases h
      obtain ⟨fd, D⟩ := Z.d__law_outside
      exact ⟨fd, gn, D.bindsN fun _ _ _ _ _ _ us hl => match us, hl with | [_], _ => rfl, D.kp⟩
    | 1, h =>
      cases h
      obtain ⟨fd, D⟩ := Z.d__law_draw
      exact ⟨fd, gn, D.bindsN fun _ _ _ _ _ _ us hl => match us, hl with | [_, _], _ => rfl, D.kp⟩
    | 2, h =>
      cases h
      obtain ⟨fd, D⟩ := Z.d__law_pick_letters
      exact ⟨fd, gn, D.bindsN fun _ _ _ _ _ _ us hl => match us, hl with | [_, _], _ => rfl, D.kp⟩
    | 3, h =>
      cases h
      obtain ⟨fd, D⟩ := Z.d__law_build
      exact ⟨fd, gn, D.bindsN fun _ _ _ _ _ _ us hl => match us, hl with | [_, _, _, _], _ => rfl, D.kp⟩
    | 4, h =>
      cases h
      obtain ⟨fd, D⟩ := Z.d__law_two
      exact ⟨fd, gn, D.bindsN fun _ _ _ _ _ _ us hl => match us, hl with | [_, _], _ => rfl, D.kp⟩
    | 5, h =>
      cases h
      obtain ⟨fd, D⟩ := Z.d_alphabet_fault
      exact ⟨fd, gn, D.bindsN fun _ _ _ _ _ _ us hl => match us, hl with | [_, _], _ => rfl, D.kp⟩
    | 6, h =>
      cases h
      obtain ⟨fd, D⟩ := Z.d_check_alphabet
      exact ⟨fd, gn, D.bindsN fun _ _ _ _ _ _ us hl => match us, hl with | [_], _ => rfl, D.kp⟩
    | 7, h =>
      cases h
      obtain ⟨fd, D⟩ := Z.d_check_state
      exact ⟨fd, gn, D.bindsN fun _ _ _ _ _ _ us hl => match us, hl with | [_, _], _ => rfl, D.kp⟩
    | 8, h =>
      cases h
      obtain ⟨fd, D⟩ := Z.d_checked_states
      exact ⟨fd, gn, D.bindsN fun _ _ _ _ _ _ us hl => match us, hl with | [_, _], _ => rfl, D.kp⟩
    | 9, h =>
      cases h
      obtain ⟨fd, D⟩ := Z.d_checked_steps
      exact ⟨fd, gn, D.bindsN fun _ _ _ _ _ _ us hl => match us, hl with | [_, _, _], _ => rfl, D.kp⟩
    | 10, h =>
      cases h
      obtain ⟨fd, D⟩ := Z.d_check_verdict
      exact ⟨fd, gn, D.bindsN fun _ _ _ _ _ _ us hl => match us, hl with | [_], _ => rfl, D.kp⟩
    | 11, h =>
      cases h
      obtain ⟨fd, D⟩ := Z.d_checked_verdicts
      exact ⟨fd, gn, D.bindsN fun _ _ _ _ _ _ us hl => match us, hl with | [_], _ => rfl, D.kp⟩
    | 12, h =>
      cases h
      obtain ⟨fd, D⟩ := Z.d_Machine___init__
      exact ⟨fd, gn, D.bindsN fun _ _ _ _ _ _ us hl => match us, hl with | [_, _, _, _, _], _ => rfl, D.kp⟩
    | 13, h =>
      cases h
      obtain ⟨fd, D⟩ := Z.d__law_object
      exact ⟨fd, gn, D.bindsN fun _ _ _ _ _ _ us hl => match us, hl with | [_], _ => rfl, D.kp⟩
    | 14, h =>
      cases h
      obtain ⟨fd, D⟩ := Z.d__law_same
      exact ⟨fd, gn, D.bindsN fun _ _ _ _ _ _ us hl => match us, hl with | [_, _], _ => rfl, D.kp⟩
    | 15, h =>
      cases h
      obtain ⟨fd, D⟩ := Z.d__law_stays
      exact ⟨fd, gn, D.bindsN fun _ _ _ _ _ _ us hl => match us, hl with | [_, _], _ => rfl, D.kp⟩
    | 16, h =>
      cases h
      obtain ⟨fd, D⟩ := Z.d_Machine___len__
      exact ⟨fd, gn, D.bindsN fun _ _ _ _ _ _ us hl => match us, hl with | [_], _ => rfl, D.kp⟩
    | 17, h =>
      cases h
      obtain ⟨fd, D⟩ := Z.d__sum_of
      exact ⟨fd, gn, D.bindsN fun _ _ _ _ _ _ us hl => match us, hl with | [_, _, _], _ => rfl, D.kp⟩
    | 18, h =>
      cases h
      obtain ⟨fd, D⟩ := Z.d_count_texts
      exact ⟨fd, gn, D.bindsN fun _ _ _ _ _ _ us hl => match us, hl with | [_, _], _ => rfl, D.kp⟩
    | 19, h =>
      cases h
      obtain ⟨fd, D⟩ := Z.d__law_listed
      exact ⟨fd, gn, D.bindsN fun _ _ _ _ _ _ us hl => match us, hl with | [_, _], _ => rfl, D.kp⟩
    | 20, h =>
      cases h
      obtain ⟨fd, D⟩ := Z.d__law_ways
      exact ⟨fd, gn, D.bindsN fun _ _ _ _ _ _ us hl => match us, hl with | [_, _, _], _ => rfl, D.kp⟩
    | 21, h =>
      cases h
      obtain ⟨fd, D⟩ := Z.d__law_sums
      exact ⟨fd, gn, D.bindsN fun _ _ _ _ _ _ us hl => match us, hl with | [_, _], _ => rfl, D.kp⟩
    | 22, h =>
      cases h
      obtain ⟨fd, D⟩ := Z.d_law
      exact ⟨fd, gn, D.bindsN fun _ _ _ _ _ _ us hl => match us, hl with | [_], _ => rfl, D.kp⟩
    | _ + 23, h => cases h
  refine ⟨al, ?_⟩
  · obtain ⟨fd, D⟩ := Z.d_count_texts
    exact ⟨fd, gn, fun s ws _ hl => kwb_count_texts D s ws hl, D.kp⟩
theorem okS (Z : Fx K mg) {n : Nat} (O : Ok P w K mg base n) : Ok P w K mg base (n + 1) := by
  have al : Alls P w K mg base (ca K) T defs (run T (n + 1)) (2 * (n + 1)) := fun f p ps h => by
    match f, h with
    | 0, h =>
      cases h
      exact g__law_outside Z O.all (O.kw_count_texts) (run_hr n)
    | 1, h =>
      cases h
      exact g__law_draw Z O.all (O.kw_count_texts) (run_hr n)
    | 2, h =>
      cases h
      exact g__law_pick_letters Z O.all (O.kw_count_texts) (run_hr n)
    | 3, h =>
      cases h
      exact g__law_build Z O.all (O.kw_count_texts) (run_hr n)
    | 4, h =>
      cases h
      exact g__law_two Z O.all (O.kw_count_texts) (run_hr n)
    | 5, h =>
      cases h
      exact g_alphabet_fault Z O.all (O.kw_count_texts) (run_hr n)
    | 6, h =>
      cases h
      exact g_check_alphabet Z O.all (O.kw_count_texts) (run_hr n)
    | 7, h =>
      cases h
      exact g_check_state Z O.all (O.kw_count_texts) (run_hr n)
    | 8, h =>
      cases h
      exact g_checked_states Z O.all (O.kw_count_texts) (run_hr n)
    | 9, h =>
      cases h
      exact g_checked_steps Z O.all (O.kw_count_texts) (run_hr n)
    | 10, h =>
      cases h
      exact g_check_verdict Z O.all (O.kw_count_texts) (run_hr n)
    | 11, h =>
      cases h
      exact g_checked_verdicts Z O.all (O.kw_count_texts) (run_hr n)
    | 12, h =>
      cases h
      exact g_Machine___init__ Z O.all (O.kw_count_texts) (run_hr n)
    | 13, h =>
      cases h
      exact g__law_object Z O.all (O.kw_count_texts) (run_hr n)
    | 14, h =>
      cases h
      exact g__law_same Z O.all (O.kw_count_texts) (run_hr n)
    | 15, h =>
      cases h
      exact g__law_stays Z O.all (O.kw_count_texts) (run_hr n)
    | 16, h =>
      cases h
      exact g_Machine___len__ Z O.all (O.kw_count_texts) (run_hr n)
    | 17, h =>
      cases h
      exact g__sum_of Z O.all (O.kw_count_texts) (run_hr n)
    | 18, h =>
      cases h
      obtain ⟨fd, h1, h2, h3, _⟩ := g_count_texts Z O.all (O.kw_count_texts) (run_hr n)
      exact ⟨fd, h1, h2, h3⟩
    | 19, h =>
      cases h
      exact g__law_listed Z O.all (O.kw_count_texts) (run_hr n)
    | 20, h =>
      cases h
      exact g__law_ways Z O.all (O.kw_count_texts) (run_hr n)
    | 21, h =>
      cases h
      exact g__law_sums Z O.all (O.kw_count_texts) (run_hr n)
    | 22, h =>
      cases h
      exact g_law Z O.all (O.kw_count_texts) (run_hr n)
    | _ + 23, h => cases h
  refine ⟨al, ?_⟩
  · obtain ⟨fd, h1, _, h3, h4⟩ := g_count_texts Z O.all (O.kw_count_texts) (run_hr n)
    exact ⟨fd, h1, h4, h3⟩
theorem ok (Z : Fx K mg) : ∀ n, Ok P w K mg base n
  | 0 => ok0 Z
  | n + 1 => okS Z (ok Z n)
end
end P69


set_option maxRecDepth 100000
set_option maxHeartbeats 4000000
/-! L69a: small defs of k69, run. -/
namespace L69
open PySem DV P69

abbrev I (ns : List Int) : List D := ns.map D.int
theorem toPys_I : ∀ ns : List Int, toPys (I ns) = some (ns.map PyData.int)
  | [] => rfl
  | n :: ns => by
    show (match toPy (.int n), toPys (I ns) with
      | some p, some ps => some (p :: ps)
      | _, _ => none) = _
    rw [toPys_I ns]
    rfl
theorem lay_ints : ∀ ns : List Int, PyData.canLayAll0 (ns.map PyData.int) = true
  | [] => rfl
  | n :: ns => by
    show (PyData.canLay0 (.int n) && PyData.canLayAll0 (ns.map PyData.int)) = true
    rw [lay_ints ns]
    rfl
theorem dep_ints : ∀ ns : List Int, PyData.depthAll (ns.map PyData.int) = 0
  | [] => rfl
  | n :: ns => by
    show max (PyData.depth (.int n)) (PyData.depthAll (ns.map PyData.int)) = 0
    rw [dep_ints ns]
    rfl
theorem shaped_lst {xs : List PyData} (h : PyData.canLayAll0 xs = true) (d : PyData.depthAll xs + 1 ≤ 64) : SeqAt.shaped (.list xs) = true := by
  unfold SeqAt.shaped
  rw [show PyData.canLay0 (.list xs) = PyData.canLayAll0 xs from rfl, h, show PyData.depth (.list xs) = PyData.depthAll xs + 1 from rfl, decide_eq_true d]
  rfl
theorem eq_nil (p : List Int) : eqD (.lst (I p)) (.lst []) = some p.isEmpty := by
  have h1 : toPy (.lst (I p)) = some (.list (p.map PyData.int)) := by
    show (toPys (I p)).map PyData.list = _
    rw [toPys_I]; rfl
  show (match toPy (.lst (I p)), toPy (.lst []) with
    | some p, some q => if SeqAt.shaped p = true ∧ SeqAt.shaped q = true then some (PyData.eqv p q) else none
    | _, _ => none) = _
  rw [h1, show toPy (.lst []) = some (.list []) from rfl]
  dsimp only
  rw [if_pos ⟨shaped_lst (lay_ints p) (by rw [dep_ints]; decide), shaped_lst rfl (by decide)⟩]
  cases p <;> rfl

def draw (p : List Int) (many : Int) : Int × List Int := match p.getLast? with
  | none => (0, p)
  | some c => (c.fmod many, p.dropLast ++ if many ≤ c then [c.fdiv many] else [])
theorem draw_lt {p : List Int} {many : Int} (h : 0 < many) : 0 ≤ (draw p many).1 ∧ (draw p many).1 < many := by
  unfold draw
  cases p.getLast? with
  | none => exact ⟨Int.le_refl 0, h⟩
  | some c => exact ⟨Int.fmod_nonneg_of_pos c h, Int.fmod_lt_of_pos c h⟩
theorem draw_len {p : List Int} {many : Int} : (draw p many).2.length ≤ p.length := by
  rcases List.eq_nil_or_concat p with h | ⟨q, c, h⟩
  · subst h; exact Nat.le_refl _
  · subst h
    unfold draw
    simp only [List.concat_eq_append, List.getLast?_append, List.getLast?_singleton, Option.some_or, List.dropLast_concat, List.length_append, List.length_singleton]
    split <;> simp
theorem draw_sp {p : List Int} {many : Int} (h0 : 0 < many) (h1 : many < 1073741824) (h2 : p.length ≤ 1000) : ∀ m, 1 ≤ m → run T m 1 [.lst (I p), .int many] = some (.ret (.int (draw p many).1) [.lst (I (draw p many).2)]) := by
  refine run_of (c := f__law_draw) (d := 0) rfl rfl (by decide) fun m _ => ?_
  show endC f__law_draw (evSs T (run T m) c__law_draw [.io (.lst (I p)), .fz (.int many), .emp]) = _
  rcases List.eq_nil_or_concat p with h | ⟨q, c, h⟩
  · subst h
    have e : eqD (.lst []) (.lst []) = some true := eq_nil []
    simp [evSs, evS, evE, evA, evO, evI, bindF, bindX, okO, nxO, setD, cellD, Cell.val, Cell.mine, Cell.put, mineAt, isLst, getAll, RA.get, allV, opT, opD, op1, op2, arith, ints2, boolF, boolX, mutD, callD, DV.argsOk, argsOk2, argOk, ioSl, putOuts, callD.okO', endC, retO', outs, c__law_draw, e, f__law_draw, draw]
  · subst h
    have e := eq_nil (q.concat c)
    have hI : I (q.concat c) = I q ++ [.int c] := by simp [I]
    have hp : mop .pop (.lst (I q ++ [.int c])) [] = some (.int c, .lst (I q)) := by
      simp [mop]
    have hd : draw (q.concat c) many = (c.fmod many, q ++ if many ≤ c then [c.fdiv many] else []) := by simp [draw]
    have hl : (I q).length < 1000000 := by
      rw [List.length_map]
      rw [List.concat_eq_append, List.length_append] at h2
      simp at h2
      omega
    have hm : many ≠ 0 ∧ many.natAbs < 1073741824 := by omega
    have ha : mop .append (.lst (I q)) [.int (c.fdiv many)] = some (.non, .lst (I q ++ [.int (c.fdiv many)])) := if_pos hl
    rw [hI] at e ⊢
    rw [hd]
    have e' : (q.concat c).isEmpty = false := by simp
    rw [e'] at e
    by_cases z : many ≤ c
    · simp [evSs, evS, evE, evA, evO, evI, bindF, bindX, okO, nxO, setD, cellD, Cell.val, Cell.mine, Cell.put, mineAt, isLst, getAll, RA.get, allV, opT, opD, op1, op2, arith, ints2, boolF, boolX, mutD, callD, DV.argsOk, argsOk2, argOk, ioSl, putOuts, callD.okO', endC, retO', outs, c__law_draw, e, f__law_draw, hp, ha, z, hm, show many ≠ 0 from hm.1]
    · simp [evSs, evS, evE, evA, evO, evI, bindF, bindX, okO, nxO, setD, cellD, Cell.val, Cell.mine, Cell.put, mineAt, isLst, getAll, RA.get, allV, opT, opD, op1, op2, arith, ints2, boolF, boolX, mutD, callD, DV.argsOk, argsOk2, argOk, ioSl, putOuts, callD.okO', endC, retO', outs, c__law_draw, e, f__law_draw, hp, ha, z, hm, show many ≠ 0 from hm.1]

theorem cat_int (a b : Int) : catD (.int a) (.int b) = some (.int (a + b)) := rfl
/-! ### the signs -/
def ch (c : Nat) : D := .str ⟨#[c]⟩
abbrev S (cs : List Nat) : Str := ⟨cs.toArray⟩
def sgn : List Nat := ("abcdefghijklmnopqrstuvwxyz0123456789(),;=.+-*:" : Str).cps.toList
theorem sgn_eq : ("abcdefghijklmnopqrstuvwxyz0123456789(),;=.+-*:" : Str) = S sgn := rfl
theorem S_len (cs : List Nat) : (S cs).length = cs.length := by
  show cs.toArray.size = _
  simp
theorem S_list (cs : List Nat) : (S cs).cps.toList = cs := by simp
theorem S_app (cs : List Nat) (c : Nat) : S cs ++ (⟨#[c]⟩ : Str) = S (cs ++ [c]) := by
  show (⟨cs.toArray ++ #[c]⟩ : Str) = _
  simp [S]
def pOut (cs : List Nat) : D → Bool
  | .str z => (match z.cps.toList with
    | [c] => !decide (c ∈ cs)
    | _ => false)
  | _ => false
theorem outside_sp (cs : List Nat) : ∀ m, 1 ≤ m → run T m 0 [.str (S cs)] = some (.ret (.lst ((sgn.filter fun c => !decide (c ∈ cs)).map ch)) []) := by
  refine run_of (c := f__law_outside) (d := 0) rfl rfl (by decide) fun m _ => ?_
  show endC f__law_outside (evSs T (run T m) c__law_outside [.fz (.str (S cs)), .emp, .emp]) = _
  have h1 : evI T (run T m) (.seq (.var 1)) [.fz (.str (S cs)), .fz (.str (S sgn)), .emp] = some (.ok (sgn.map ch) [.fz (.str (S cs)), .fz (.str (S sgn)), .emp]) := by
    simp [evSs, evS, evE, evA, evO, evI, bindF, bindX, okO, nxO, setD, cellD, Cell.val, Cell.mine, Cell.put, mineAt, isLst, getAll, RA.get, allV, opT, opD, op1, op2, arith, ints2, boolF, boolX, mutD, callD, DV.argsOk, argsOk2, argOk, ioSl, putOuts, callD.okO', endC, retO', outs, itemsD]
    exact fun _ _ => rfl
  have hc := evO_lci (T := T) (calls := run T m) (own := [2]) (tg := .name 2) (cd := .op .notIn (.s 2 (.s 0 .nil))) (elt := .var 2) (pOut cs) id h1 rfl (by decide) fun x hx => by
    obtain ⟨c, _, rfl⟩ := List.mem_map.mp hx
    refine ⟨[.fz (.str (S cs)), .fz (.str (S sgn)), .fz (ch c)], [.fz (.str (S cs)), .fz (.str (S sgn)), .fz (ch c)], rfl, ?_, rfl, fun _ => ⟨[.fz (.str (S cs)), .fz (.str (S sgn)), .fz (ch c)], ?_, rfl⟩⟩
    · simp [evSs, evS, evE, evA, evO, evI, bindF, bindX, okO, nxO, setD, cellD, Cell.val, Cell.mine, Cell.put, mineAt, isLst, getAll, RA.get, allV, opT, opD, op1, op2, arith, ints2, boolF, boolX, mutD, callD, DV.argsOk, argsOk2, argOk, ioSl, putOuts, callD.okO', endC, retO', outs, ch, inD, pOut]
    · simp [evSs, evS, evE, evA, evO, evI, bindF, bindX, okO, nxO, setD, cellD, Cell.val, Cell.mine, Cell.put, mineAt, isLst, getAll, RA.get, allV, opT, opD, op1, op2, arith, ints2, boolF, boolX, mutD, callD, DV.argsOk, argsOk2, argOk, ioSl, putOuts, callD.okO', endC, retO', outs]
  have hf : ((sgn.map ch).filter (pOut cs)).map id = (sgn.filter fun c => !decide (c ∈ cs)).map ch := by
    rw [List.map_id, List.filter_map]
    rfl
  rw [hf] at hc
  show endC f__law_outside (evSs T (run T m) (.cons (.set 1 (.cst (.str (S sgn)))) (.cons (.ret (.fr _)) .nil)) _) = _
  refine (congrArg (endC f__law_outside) (evSs_cons (env' := [.fz (.str (S cs)), .fz (.str (S sgn)), .emp]) (by simp [evSs, evS, evE, evA, evO, evI, bindF, bindX, okO, nxO, setD, cellD, Cell.val, Cell.mine, Cell.put, mineAt, isLst, getAll, RA.get, allV, opT, opD, op1, op2, arith, ints2, boolF, boolX, mutD, callD, DV.argsOk, argsOk2, argOk, ioSl, putOuts, callD.okO', endC, retO', outs]) (evSs_ret (d := .lst ((sgn.filter fun c => !decide (c ∈ cs)).map ch)) (env' := [.fz (.str (S cs)), .fz (.str (S sgn)), .emp]) ?_))).trans ?_
  · show bindF (evO T (run T m) _ _) (fun d env' => some (.rt d env')) = _
    rw [hc]
    rfl
  · rfl
end L69


set_option maxRecDepth 100000
set_option maxHeartbeats 4000000
/-! L69b: letters, machines drawn. -/
namespace L69
open PySem DV P69

theorem run_S {f m : Nat} {c : FnC} {ds : List D} {r : Res} (hc : T.code f = some c) (hl : ds.length = c.ms.length) (hn : c.ms.length ≤ c.n) (h : endC c (evSs T (run T m) c.body (start0 c ds)) = some r) : run T (m + 1) f ds = some r := by
  show (match T.code f with
    | some c => runC T (run T m) c ds
    | none => none) = _
  rw [hc]
  show (if ds.length = c.ms.length ∧ c.ms.length ≤ c.n then endC c (evSs T (run T m) c.body (start0 c ds)) else none) = _
  rw [if_pos ⟨hl, hn⟩]
  exact h
theorem up {P : Nat → Prop} {d : Nat} (h : ∀ m, d ≤ m → P (m + 1)) : ∀ m, d + 1 ≤ m → P m
  | 0, hm => by omega
  | m + 1, hm => h m (by omega)
theorem atI_ok {α : Type} {xs : List α} {i : Int} (h0 : 0 ≤ i) (h1 : i < xs.length) : ∃ x, L2.atI xs i = some x ∧ x ∈ xs ∧ xs[i.toNat]? = some x := by
  have h2 : i.toNat < xs.length := by omega
  refine ⟨xs[i.toNat], ?_, List.getElem_mem h2, List.getElem?_eq_getElem h2⟩
  unfold L2.atI L2.ixN
  rw [if_pos h0, if_pos h1]
  exact List.getElem?_eq_getElem h2
theorem sub_len {l k : List Nat} (hl : l.Nodup) (h : ∀ c ∈ l, c ∈ k) : l.length ≤ k.length := by
  induction l generalizing k with
  | nil => exact Nat.zero_le _
  | cons a l ih =>
    obtain ⟨h1, h2⟩ := List.nodup_cons.mp hl
    have ha := h a List.mem_cons_self
    have := ih (k := k.erase a) h2 fun c hc => by
      have hne : c ≠ a := fun z => h1 (z ▸ hc)
      exact (List.mem_erase_of_ne hne).mpr (h c (List.mem_cons_of_mem _ hc))
    rw [List.length_erase_of_mem ha] at this
    have hk : 0 < k.length := List.length_pos_of_mem ha
    rw [List.length_cons]
    omega
theorem sgn_nd : sgn.Nodup := by decide +kernel
theorem sgn_len : sgn.length = 46 := by decide +kernel
theorem left_pos {cs : List Nat} (h : cs.length ≤ 40) : 0 < (sgn.filter fun c => !decide (c ∈ cs)).length := by
  rcases Nat.eq_zero_or_pos (sgn.filter fun c => !decide (c ∈ cs)).length with z | z
  · have e := List.eq_nil_of_length_eq_zero z
    have := sub_len sgn_nd (k := cs) fun c hc => by
      by_cases q : c ∈ cs
      · exact q
      · have : c ∈ sgn.filter fun c => !decide (c ∈ cs) := List.mem_filter.mpr ⟨hc, by simp [q]⟩
        rw [e] at this
        cases this
    rw [sgn_len] at this
    omega
  · exact z
def pick_body : SCs := match c__law_pick_letters with
  | .cons _ (.cons (.for_ _ _ b) _) => b
  | _ => .nil
theorem pick_step {m : Nat} (hm : 1 ≤ m) {cs : List Nat} {p : List Int} {many : Int} {k : Nat} {x4 : Cell} (hcs : cs.length ≤ 40) (hp : p.length ≤ 1000) :
    ∃ c p' x4', c ∈ sgn ∧ c ∉ cs ∧ p'.length ≤ p.length ∧ evSs T (run T m) pick_body [.io (.lst (I p)), .fz (.int many), .fz (.str (S cs)), .fz (.int k), x4] = some (.nx [.io (.lst (I p')), .fz (.int many), .fz (.str (S (cs ++ [c]))), .fz (.int k), x4']) := by
  have hpos := left_pos hcs
  generalize hlf : (sgn.filter fun c => !decide (c ∈ cs)) = lf at hpos
  have hle : lf.length ≤ 46 := by
    rw [← sgn_len, ← hlf]
    exact List.length_filter_le _ _
  have h1 : run T m 0 [.str (S cs)] = some (.ret (.lst (lf.map ch)) []) := by rw [← hlf]; exact outside_sp cs m hm
  have hn0 : (0 : Int) < (lf.length : Int) := by omega
  have h2 := draw_sp (p := p) (many := lf.length) hn0 (by omega) hp m hm
  obtain ⟨r0, r1⟩ := draw_lt (p := p) (many := (lf.length : Int)) hn0
  have hl := draw_len (p := p) (many := (lf.length : Int))
  generalize hd : draw p (lf.length : Int) = d at h2 r0 r1 hl
  obtain ⟨r, p'⟩ := d
  have i0 := Int.fmod_nonneg_of_pos (r + 31 * (k : Int)) hn0
  have i1 := Int.fmod_lt_of_pos (r + 31 * (k : Int)) hn0
  obtain ⟨x, hx, hmem, _⟩ := atI_ok (xs := lf.map ch) i0 (by rw [List.length_map]; exact i1)
  obtain ⟨c, hc, rfl⟩ := List.mem_map.mp hmem
  have hc' : c ∈ sgn ∧ c ∉ cs := by
    rw [← hlf] at hc
    obtain ⟨q1, q2⟩ := List.mem_filter.mp hc
    exact ⟨q1, by simpa using q2⟩
  refine ⟨c, p', .fz (.lst (lf.map ch)), hc'.1, hc'.2, hl, ?_⟩
  have h3 : catD (.str (S cs)) (ch c) = some (.str (S (cs ++ [c]))) := by
    show (if (S cs).length + (⟨#[c]⟩ : Str).length ≤ 1000000 then some (D.str (S cs ++ ⟨#[c]⟩)) else none) = _
    rw [S_len, S_app, if_pos (by show cs.length + 1 ≤ 1000000; omega)]
  have hne : lf ≠ [] := fun z => by rw [z] at hpos; cases hpos
  simp [evSs, evS, evE, evA, evO, evI, bindF, bindX, okO, nxO, setD, cellD, Cell.val, Cell.mine, Cell.put, mineAt, isLst, getAll, RA.get, allV, opT, opD, op1, op2, arith, ints2, boolF, boolX, mutD, callD, DV.argsOk, argsOk2, argOk, ioSl, putOuts, callD.okO', endC, retO', outs, cat_int, pick_body, c__law_pick_letters, h1, h2, h3, lenD, idxD, hx, hne, show T.code 0 = some f__law_outside from rfl, show T.code 1 = some f__law_draw from rfl, f__law_outside, f__law_draw, show (31 : Int).natAbs < 18446744073709551616 from by decide]
theorem S_nil : ("" : Str) = S [] := by rfl
theorem pick_sp {p : List Int} {many : Nat} (h1 : many ≤ 40) (hp : p.length ≤ 1000) : ∀ m, 2 ≤ m → ∃ cs p', cs.length = many ∧ cs.Nodup ∧ (∀ c ∈ cs, c ∈ sgn) ∧ p'.length ≤ p.length ∧ run T m 2 [.lst (I p), .int many] = some (.ret (.str (S cs)) [.lst (I p')]) := by
  refine up fun m hm => ?_
  have hitems : evI T (run T m) (.rng1 (.var 1)) [.io (.lst (I p)), .fz (.int many), .fz (.str ""), .emp, .emp] = some (.ok (rngD 0 many) [.io (.lst (I p)), .fz (.int many), .fz (.str ""), .emp, .emp]) := evI_rng1 (by simp [evSs, evS, evE, evA, evO, evI, bindF, bindX, okO, nxO, setD, cellD, Cell.val, Cell.mine, Cell.put, mineAt, isLst, getAll, RA.get, allV, opT, opD, op1, op2, arith, ints2, boolF, boolX, mutD, callD, DV.argsOk, argsOk2, argOk, ioSl, putOuts, callD.okO', endC, retO', outs]) (by omega)
  obtain ⟨e', h2, cs, p', x3, x4, a1, a2, a3, a4, rfl⟩ := for_ok (tg := .name 3) (body := pick_body) (fun i e => ∃ cs p' x3 x4, cs.length = i ∧ cs.Nodup ∧ (∀ c ∈ cs, c ∈ sgn) ∧ p'.length ≤ p.length ∧ e = [.io (.lst (I p')), .fz (.int many), .fz (.str (S cs)), x3, x4]) hitems
    ⟨[], p, .emp, .emp, rfl, List.nodup_nil, fun c hc => (by cases hc), Nat.le_refl _, by rw [S_nil]⟩ fun j d e hj ⟨cs, p', x3, x4, a1, a2, a3, a4, ee⟩ => by
      subst ee
      obtain ⟨hlt, rfl⟩ := rng_get hj
      obtain ⟨c, p2, x5, b1, b2, b3, b4⟩ := pick_step (m := m) hm (cs := cs) (p := p') (many := many) (k := j) (x4 := x4) (by omega) (by omega)
      refine ⟨_, _, rfl, b4, cs ++ [c], p2, _, _, by rw [List.length_append, a1]; simp, ?_, fun y hy => ?_, by omega, rfl⟩
      · rw [List.nodup_append]
        refine ⟨a2, by simp, fun a ha b hb => ?_⟩
        rw [List.mem_singleton] at hb
        subst hb
        exact fun z => b2 (z ▸ ha)
      · rcases List.mem_append.mp hy with hy | hy
        · exact a3 y hy
        · rw [List.mem_singleton] at hy; subst hy; exact b1
  refine ⟨cs, p', by rw [a1, rng_len], a2, a3, a4, run_S (c := f__law_pick_letters) rfl rfl (by decide) ?_⟩
  show endC f__law_pick_letters (evSs T (run T m) (.cons (.set 2 (.cst (.str ""))) (.cons (.for_ (.rng1 (.var 1)) (.name 3) pick_body) (.cons (.ret (.var 2)) .nil))) [.io (.lst (I p)), .fz (.int many), .emp, .emp, .emp]) = _
  refine (congrArg (endC f__law_pick_letters) (evSs_cons (env' := [.io (.lst (I p)), .fz (.int many), .fz (.str ""), .emp, .emp]) (by simp [evSs, evS, evE, evA, evO, evI, bindF, bindX, okO, nxO, setD, cellD, Cell.val, Cell.mine, Cell.put, mineAt, isLst, getAll, RA.get, allV, opT, opD, op1, op2, arith, ints2, boolF, boolX, mutD, callD, DV.argsOk, argsOk2, argOk, ioSl, putOuts, callD.okO', endC, retO', outs]) (evSs_cons h2 (evSs_ret (d := .str (S cs)) (env' := [.io (.lst (I p')), .fz (.int many), .fz (.str (S cs)), x3, x4]) (by simp [evSs, evS, evE, evA, evO, evI, bindF, bindX, okO, nxO, setD, cellD, Cell.val, Cell.mine, Cell.put, mineAt, isLst, getAll, RA.get, allV, opT, opD, op1, op2, arith, ints2, boolF, boolX, mutD, callD, DV.argsOk, argsOk2, argOk, ioSl, putOuts, callD.okO', endC, retO', outs]))))).trans ?_
  simp [evSs, evS, evE, evA, evO, evI, bindF, bindX, okO, nxO, setD, cellD, Cell.val, Cell.mine, Cell.put, mineAt, isLst, getAll, RA.get, allV, opT, opD, op1, op2, arith, ints2, boolF, boolX, mutD, callD, DV.argsOk, argsOk2, argOk, ioSl, putOuts, callD.okO', endC, retO', outs, f__law_pick_letters]
end L69


set_option maxRecDepth 100000
set_option maxHeartbeats 4000000
/-! L69c: _law_build run. -/
namespace L69
open PySem DV P69

def bodyOf : SCs → Nat → SCs
  | .cons (.for_ _ _ b) _, 0 => b
  | .cons _ r, 0 => .nil
  | .cons _ r, n + 1 => bodyOf r n
  | .nil, _ => .nil
/-- entries of a machine's table -/
def Ent (n : Nat) (r : List Int) : Prop := ∀ x ∈ r, 0 ≤ x ∧ x < n
def bo : SCs := bodyOf c__law_build 1
def bi : SCs := bodyOf bo 1
def bw : SCs := bodyOf c__law_build 4
theorem mop_app (xs : List D) (d : D) (h : xs.length < 1000000) : mop .append (.lst xs) [d] = some (.non, .lst (xs ++ [d])) := if_pos h
theorem bi_step {m : Nat} (hm : 1 ≤ m) {p row : List Int} {cs : List Nat} {n k q : Nat} {sh : Int} {x4 x6 x7 : Cell} (hp : p.length ≤ 1000) (h0 : 0 < n) (h1 : n ≤ 60) (hq : q ≤ 60) (hr : row.length ≤ 100) :
    ∃ (p' : List Int) (r : Int), p'.length ≤ p.length ∧ 0 ≤ r ∧ r < n ∧ evSs T (run T m) bi [.io (.lst (I p)), .fz (.str (S cs)), .fz (.int n), .fz (.int sh), x4, .fz (.int q), x6, x7, .own (.lst (I row)), .fz (.int k)] =
      some (.nx [.io (.lst (I p')), .fz (.str (S cs)), .fz (.int n), .fz (.int sh), x4, .fz (.int q), x6, x7, .own (.lst (I (row ++ [r]))), .fz (.int k)]) := by
  have hn0 : (0 : Int) < (n : Int) := by omega
  have h2 := draw_sp (p := p) (many := n) hn0 (by omega) hp m hm
  have hl := draw_len (p := p) (many := (n : Int))
  generalize draw p (n : Int) = d at h2 hl
  obtain ⟨r, p'⟩ := d
  have i0 := Int.fmod_nonneg_of_pos (r + (q : Int) * (1 + sh) + (k : Int) + 1) hn0
  have i1 := Int.fmod_lt_of_pos (r + (q : Int) * (1 + sh) + (k : Int) + 1) hn0
  refine ⟨p', _, hl, i0, i1, ?_⟩
  have ha := mop_app (I row) (.int ((r + (q : Int) * (1 + sh) + (k : Int) + 1).fmod n)) (by rw [List.length_map]; omega)
  simp [evSs, evS, evE, evA, evO, evI, bindF, bindX, okO, nxO, setD, cellD, Cell.val, Cell.mine, Cell.put, mineAt, isLst, getAll, RA.get, allV, opT, opD, op1, op2, arith, ints2, boolF, boolX, mutD, callD, DV.argsOk, argsOk2, argOk, ioSl, putOuts, callD.okO', endC, retO', outs, cat_int, bi, bo, bodyOf, c__law_build, h2, ha, show T.code 1 = some f__law_draw from rfl, f__law_draw, show ¬ (n = 0) from by omega, show q < 18446744073709551616 from by omega]
theorem len_str (cs : List Nat) (h : cs.length ≤ 1000000) : lenD (.str (S cs)) = some cs.length := by
  show (if (S cs).length ≤ 1000000 then some (S cs).length else none) = _
  rw [S_len, if_pos h]
abbrev R (rows : List (List Int)) : List D := rows.map fun r => .lst (I r)
theorem bo_step {m : Nat} (hm : 1 ≤ m) {p : List Int} {rows : List (List Int)} {cs : List Nat} {n q : Nat} {sh : Int} {x6 x7 x8 x9 : Cell} (hp : p.length ≤ 1000) (h0 : 0 < n) (h1 : n ≤ 60) (hq : q ≤ 60) (hc : cs.length ≤ 6) (hr : rows.length ≤ 100) :
    ∃ p' row x9', p'.length ≤ p.length ∧ row.length = cs.length ∧ Ent n row ∧ evSs T (run T m) bo [.io (.lst (I p)), .fz (.str (S cs)), .fz (.int n), .fz (.int sh), .own (.lst (R rows)), .fz (.int q), x6, x7, x8, x9] =
      some (.nx [.io (.lst (I p')), .fz (.str (S cs)), .fz (.int n), .fz (.int sh), .own (.lst (R (rows ++ [row]))), .fz (.int q), x6, x7, .fz (.lst (I row)), x9']) := by
  obtain ⟨e', h2, p', row, x9', a1, a2, a3, rfl⟩ := for_ok (T := T) (calls := run T m) (it := .rng1 (.op .len (.s 1 .nil))) (tg := .name 9) (body := bi) (fun i e => ∃ p' row x9, p'.length ≤ p.length ∧ row.length = i ∧ Ent n row ∧ e = [.io (.lst (I p')), .fz (.str (S cs)), .fz (.int n), .fz (.int sh), .own (.lst (R rows)), .fz (.int q), x6, x7, .own (.lst (I row)), x9])
    (env := [.io (.lst (I p)), .fz (.str (S cs)), .fz (.int n), .fz (.int sh), .own (.lst (R rows)), .fz (.int q), x6, x7, .own (.lst (I [])), x9]) (evI_rng1 (n := cs.length) (by simp [evSs, evS, evE, evA, evO, evI, bindF, bindX, okO, nxO, setD, cellD, Cell.val, Cell.mine, Cell.put, mineAt, isLst, getAll, RA.get, allV, opT, opD, op1, op2, arith, ints2, boolF, boolX, mutD, callD, DV.argsOk, argsOk2, argOk, ioSl, putOuts, callD.okO', endC, retO', outs, len_str cs (by omega)]) (by omega)) ⟨p, [], x9, Nat.le_refl _, rfl, fun x hx => (by cases hx), rfl⟩ fun j d e hj ⟨p', row, x9, a1, a2, a3, ee⟩ => by
      subst ee
      obtain ⟨hlt, rfl⟩ := rng_get hj
      obtain ⟨p2, r, b1, b2, b3, b4⟩ := bi_step (m := m) hm (p := p') (row := row) (cs := cs) (n := n) (k := j) (q := q) (sh := sh) (x4 := .own (.lst (R rows))) (x6 := x6) (x7 := x7) (by omega) h0 h1 hq (by omega)
      refine ⟨_, _, rfl, b4, p2, row ++ [r], _, by omega, by rw [List.length_append, a2]; rfl, fun y hy => ?_, rfl⟩
      rcases List.mem_append.mp hy with hy | hy
      · exact a3 y hy
      · rw [List.mem_singleton] at hy; subst hy; exact ⟨b2, b3⟩
  refine ⟨p', row, x9', a1, by rw [a2, rng_len], a3, ?_⟩
  have ha := mop_app (R rows) (.lst (I row)) (by rw [List.length_map]; omega)
  show evSs T (run T m) (.cons (.setO 8 (.lst .nil)) (.cons (.for_ (.rng1 (.op .len (.s 1 .nil))) (.name 9) bi) (.cons (.expr (.mut .append 4 (.e (.var 8) .nil))) .nil))) _ = _
  refine evSs_cons (env' := [.io (.lst (I p)), .fz (.str (S cs)), .fz (.int n), .fz (.int sh), .own (.lst (R rows)), .fz (.int q), x6, x7, .own (.lst (I [])), x9]) (by simp [evSs, evS, evE, evA, evO, evI, bindF, bindX, okO, nxO, setD, cellD, Cell.val, Cell.mine, Cell.put, mineAt, isLst, getAll, RA.get, allV, opT, opD, op1, op2, arith, ints2, boolF, boolX, mutD, callD, DV.argsOk, argsOk2, argOk, ioSl, putOuts, callD.okO', endC, retO', outs]) (evSs_cons h2 ?_)
  simp [evSs, evS, evE, evA, evO, evI, bindF, bindX, okO, nxO, setD, cellD, Cell.val, Cell.mine, Cell.put, mineAt, isLst, getAll, RA.get, allV, opT, opD, op1, op2, arith, ints2, boolF, boolX, mutD, callD, DV.argsOk, argsOk2, argOk, ioSl, putOuts, callD.okO', endC, retO', outs, ha]
def vw : List Str := ["in", "hung", "out"]
def W (ws : List Str) : List D := ws.map D.str
theorem bw_step {m : Nat} (hm : 1 ≤ m) {p : List Int} {ws : List Str} {cs : List Nat} {n q : Nat} {sh : Int} {x4 x5 x8 x9 : Cell} (hp : p.length ≤ 1000) (hw : ws.length ≤ 100) :
    ∃ p' w, p'.length ≤ p.length ∧ w ∈ vw ∧ evSs T (run T m) bw [.io (.lst (I p)), .fz (.str (S cs)), .fz (.int n), .fz (.int sh), x4, .fz (.int q), .fz (.lst [.str "hung", .str "in", .str "out"]), .own (.lst (W ws)), x8, x9] =
      some (.nx [.io (.lst (I p')), .fz (.str (S cs)), .fz (.int n), .fz (.int sh), x4, .fz (.int q), .fz (.lst [.str "hung", .str "in", .str "out"]), .own (.lst (W (ws ++ [w]))), x8, x9]) := by
  have hn0 : (0 : Int) < 3 := by decide
  have h2 := draw_sp (p := p) (many := 3) hn0 (by omega) hp m hm
  have hl := draw_len (p := p) (many := 3)
  generalize draw p 3 = d at h2 hl
  obtain ⟨r, p'⟩ := d
  have i0 := Int.fmod_nonneg_of_pos (r + (q : Int) + sh) hn0
  have i1 := Int.fmod_lt_of_pos (r + (q : Int) + sh) hn0
  obtain ⟨x, hx, hmem, _⟩ := atI_ok (xs := [D.str "hung", D.str "in", D.str "out"]) i0 i1
  have hw' : ∃ w, w ∈ vw ∧ x = .str w := by
    rcases List.mem_cons.mp hmem with rfl | h
    · exact ⟨"hung", by decide, rfl⟩
    · rcases List.mem_cons.mp h with rfl | h
      · exact ⟨"in", by decide, rfl⟩
      · rcases List.mem_cons.mp h with rfl | h
        · exact ⟨"out", by decide, rfl⟩
        · cases h
  obtain ⟨w, hw1, rfl⟩ := hw'
  refine ⟨p', w, hl, hw1, ?_⟩
  have ha := mop_app (W ws) (.str w) (by rw [W, List.length_map]; omega)
  have hW : W (ws ++ [w]) = W ws ++ [.str w] := by simp [W]
  rw [hW]
  simp [evSs, evS, evE, evA, evO, evI, bindF, bindX, okO, nxO, setD, cellD, Cell.val, Cell.mine, Cell.put, mineAt, isLst, getAll, RA.get, allV, opT, opD, op1, op2, arith, ints2, boolF, boolX, mutD, callD, DV.argsOk, argsOk2, argOk, ioSl, putOuts, callD.okO', endC, retO', outs, cat_int, bw, bodyOf, c__law_build, h2, ha, idxD, hx, show T.code 1 = some f__law_draw from rfl, f__law_draw]
/-- what _law_build hands back -/
structure GOK (cs : List Nat) (st : Int) (rows : List (List Int)) (ws : List Str) (n : Nat) : Prop where
  st0 : 0 ≤ st
  st1 : st < n
  rl : rows.length = n
  rw : ∀ r ∈ rows, r.length = cs.length ∧ Ent n r
  wl : ws.length = n
  wv : ∀ w ∈ ws, w ∈ vw
def gv (cs : List Nat) (st : Int) (rows : List (List Int)) (ws : List Str) : D := .lst [.str (S cs), .int st, .lst (R rows), .lst (W ws)]
theorem build_sp {p : List Int} {cs : List Nat} {n : Nat} {sh : Int} (hp : p.length ≤ 1000) (h0 : 0 < n) (h1 : n ≤ 60) (hc : cs.length ≤ 6) :
    ∀ m, 2 ≤ m → ∃ st rows ws p', GOK cs st rows ws n ∧ p'.length ≤ p.length ∧ run T m 3 [.lst (I p), .str (S cs), .int n, .int sh] = some (.ret (gv cs st rows ws) [.lst (I p')]) := by
  refine up fun m hm => ?_
  obtain ⟨e1, h2, p1, rows, x5, x8, x9, a1, a2, a3, rfl⟩ := for_ok (T := T) (calls := run T m) (it := .rng1 (.var 2)) (tg := .name 5) (body := bo) (fun i e => ∃ p' rows x5 x8 x9, p'.length ≤ p.length ∧ rows.length = i ∧ (∀ r ∈ rows, r.length = cs.length ∧ Ent n r) ∧ e = [.io (.lst (I p')), .fz (.str (S cs)), .fz (.int n), .fz (.int sh), .own (.lst (R rows)), x5, .emp, .emp, x8, x9])
    (env := [.io (.lst (I p)), .fz (.str (S cs)), .fz (.int n), .fz (.int sh), .own (.lst (R [])), .emp, .emp, .emp, .emp, .emp]) (evI_rng1 (n := n) (by simp [evSs, evS, evE, evA, evO, evI, bindF, bindX, okO, nxO, setD, cellD, Cell.val, Cell.mine, Cell.put, mineAt, isLst, getAll, RA.get, allV, opT, opD, op1, op2, arith, ints2, boolF, boolX, mutD, callD, DV.argsOk, argsOk2, argOk, ioSl, putOuts, callD.okO', endC, retO', outs]) (by omega)) ⟨p, [], .emp, .emp, .emp, Nat.le_refl _, rfl, fun x hx => (by cases hx), rfl⟩ fun j d e hj ⟨p', rows, x5, x8, x9, a1, a2, a3, ee⟩ => by
      subst ee
      obtain ⟨hlt, rfl⟩ := rng_get hj
      obtain ⟨p2, row, x9', b1, b2, b3, b4⟩ := bo_step (m := m) hm (p := p') (rows := rows) (cs := cs) (n := n) (q := j) (sh := sh) (x6 := .emp) (x7 := .emp) (x8 := x8) (x9 := x9) (by omega) h0 h1 (by omega) hc (by omega)
      refine ⟨_, _, rfl, b4, p2, rows ++ [row], _, _, _, by omega, by rw [List.length_append, a2]; rfl, fun y hy => ?_, rfl⟩
      rcases List.mem_append.mp hy with hy | hy
      · exact a3 y hy
      · rw [List.mem_singleton] at hy; subst hy; exact ⟨b2, b3⟩
  rw [rng_len] at a2
  obtain ⟨e2, h3, p2, ws, x5', b1, b2, b3, rfl⟩ := for_ok (T := T) (calls := run T m) (it := .rng1 (.var 2)) (tg := .name 5) (body := bw) (fun i e => ∃ p' ws x5, p'.length ≤ p1.length ∧ ws.length = i ∧ (∀ w ∈ ws, w ∈ vw) ∧ e = [.io (.lst (I p')), .fz (.str (S cs)), .fz (.int n), .fz (.int sh), .own (.lst (R rows)), x5, .fz (.lst [.str "hung", .str "in", .str "out"]), .own (.lst (W ws)), x8, x9])
    (env := [.io (.lst (I p1)), .fz (.str (S cs)), .fz (.int n), .fz (.int sh), .own (.lst (R rows)), x5, .fz (.lst [.str "hung", .str "in", .str "out"]), .own (.lst (W [])), x8, x9]) (evI_rng1 (n := n) (by simp [evSs, evS, evE, evA, evO, evI, bindF, bindX, okO, nxO, setD, cellD, Cell.val, Cell.mine, Cell.put, mineAt, isLst, getAll, RA.get, allV, opT, opD, op1, op2, arith, ints2, boolF, boolX, mutD, callD, DV.argsOk, argsOk2, argOk, ioSl, putOuts, callD.okO', endC, retO', outs]) (by omega)) ⟨p1, [], x5, Nat.le_refl _, rfl, fun x hx => (by cases hx), rfl⟩ fun j d e hj ⟨p', ws, x5, a1', a2', a3', ee⟩ => by
      subst ee
      obtain ⟨hlt, rfl⟩ := rng_get hj
      obtain ⟨p2, w, b1, b2, b4⟩ := bw_step (m := m) hm (p := p') (ws := ws) (cs := cs) (n := n) (q := j) (sh := sh) (x4 := .own (.lst (R rows))) (x5 := x5) (x8 := x8) (x9 := x9) (by omega) (by omega)
      refine ⟨_, _, rfl, b4, p2, ws ++ [w], _, by omega, by rw [List.length_append, a2']; rfl, fun y hy => ?_, rfl⟩
      rcases List.mem_append.mp hy with hy | hy
      · exact a3' y hy
      · rw [List.mem_singleton] at hy; subst hy; exact b2
  rw [rng_len] at b2
  have hn0 : (0 : Int) < (n : Int) := by omega
  have h4 := draw_sp (p := p2) (many := n) hn0 (by omega) (by omega) m hm
  have hl := draw_len (p := p2) (many := (n : Int))
  generalize draw p2 (n : Int) = d at h4 hl
  obtain ⟨r, p3⟩ := d
  have hl : p3.length ≤ p2.length := hl
  have i0 := Int.fmod_nonneg_of_pos (r + 1) hn0
  have i1 := Int.fmod_lt_of_pos (r + 1) hn0
  refine ⟨(r + 1).fmod n, rows, ws, p3, ⟨i0, i1, a2, a3, b2, b3⟩, by omega, run_S (c := f__law_build) rfl rfl (by decide) ?_⟩
  show endC f__law_build (evSs T (run T m) (.cons (.setO 4 (.lst .nil)) (.cons (.for_ (.rng1 (.var 2)) (.name 5) bo) (.cons (.set 6 _) (.cons (.setO 7 (.lst .nil)) (.cons (.for_ (.rng1 (.var 2)) (.name 5) bw) (.cons _ .nil)))))) [.io (.lst (I p)), .fz (.str (S cs)), .fz (.int n), .fz (.int sh), .emp, .emp, .emp, .emp, .emp, .emp]) = _
  refine (congrArg (endC f__law_build) (evSs_cons (env' := [.io (.lst (I p)), .fz (.str (S cs)), .fz (.int n), .fz (.int sh), .own (.lst (R [])), .emp, .emp, .emp, .emp, .emp]) (by simp [evSs, evS, evE, evA, evO, evI, bindF, bindX, okO, nxO, setD, cellD, Cell.val, Cell.mine, Cell.put, mineAt, isLst, getAll, RA.get, allV, opT, opD, op1, op2, arith, ints2, boolF, boolX, mutD, callD, DV.argsOk, argsOk2, argOk, ioSl, putOuts, callD.okO', endC, retO', outs]) (evSs_cons h2
    (evSs_cons (env' := [.io (.lst (I p1)), .fz (.str (S cs)), .fz (.int n), .fz (.int sh), .own (.lst (R rows)), x5, .fz (.lst [.str "hung", .str "in", .str "out"]), .emp, x8, x9]) (by simp [evSs, evS, evE, evA, evO, evI, bindF, bindX, okO, nxO, setD, cellD, Cell.val, Cell.mine, Cell.put, mineAt, isLst, getAll, RA.get, allV, opT, opD, op1, op2, arith, ints2, boolF, boolX, mutD, callD, DV.argsOk, argsOk2, argOk, ioSl, putOuts, callD.okO', endC, retO', outs])
    (evSs_cons (env' := [.io (.lst (I p1)), .fz (.str (S cs)), .fz (.int n), .fz (.int sh), .own (.lst (R rows)), x5, .fz (.lst [.str "hung", .str "in", .str "out"]), .own (.lst (W [])), x8, x9]) (by simp [evSs, evS, evE, evA, evO, evI, bindF, bindX, okO, nxO, setD, cellD, Cell.val, Cell.mine, Cell.put, mineAt, isLst, getAll, RA.get, allV, opT, opD, op1, op2, arith, ints2, boolF, boolX, mutD, callD, DV.argsOk, argsOk2, argOk, ioSl, putOuts, callD.okO', endC, retO', outs, W]) (evSs_cons h3
    (evSs_ret (d := gv cs ((r + 1).fmod n) rows ws) (env' := [.io (.lst (I p3)), .fz (.str (S cs)), .fz (.int n), .fz (.int sh), .fz (.lst (R rows)), x5', .fz (.lst [.str "hung", .str "in", .str "out"]), .fz (.lst (W ws)), x8, x9]) ?_))))))).trans ?_
  · simp [evSs, evS, evE, evA, evO, evI, bindF, bindX, okO, nxO, setD, cellD, Cell.val, Cell.mine, Cell.put, mineAt, isLst, getAll, RA.get, allV, opT, opD, op1, op2, arith, ints2, boolF, boolX, mutD, callD, DV.argsOk, argsOk2, argOk, ioSl, putOuts, callD.okO', endC, retO', outs, cat_int, h4, gv, show T.code 1 = some f__law_draw from rfl, f__law_draw, show ¬ (n = 0) from by omega]
  · simp [evSs, evS, evE, evA, evO, evI, bindF, bindX, okO, nxO, setD, cellD, Cell.val, Cell.mine, Cell.put, mineAt, isLst, getAll, RA.get, allV, opT, opD, op1, op2, arith, ints2, boolF, boolX, mutD, callD, DV.argsOk, argsOk2, argOk, ioSl, putOuts, callD.okO', endC, retO', outs, f__law_build]
end L69


set_option maxRecDepth 100000
set_option maxHeartbeats 4000000
/-! L69d: the checks, the machine made. -/
namespace L69
open PySem DV P69

structure COK (cs : List Nat) : Prop where
  l1 : 1 ≤ cs.length
  l6 : cs.length ≤ 6
  nd : cs.Nodup
  sub : ∀ c ∈ cs, c ∈ sgn
theorem items_str (cs : List Nat) : itemsD (.str (S cs)) = some (cs.map ch) := by
  show some ((S cs).cps.toList.map fun c => D.str ⟨#[c]⟩) = _
  rw [S_list]
  rfl
theorem in_ch (c : Nat) (cs : List Nat) : inD (ch c) (.str (S cs)) = some (decide (c ∈ cs)) := by
  show some (decide (c ∈ (S cs).cps.toList)) = _
  rw [S_list]
theorem slice_S (cs : List Nat) (i : Nat) (h : i ≤ cs.length) (hl : cs.length ≤ 1000000) : slD (.str (S cs)) none (some (i : Int)) = some (.str (S (cs.take i))) := by
  show (if (S cs).length ≤ 1000000 then some (D.str (L2.cutS (S cs) none (some (i : Int)))) else none) = _
  rw [S_len, if_pos hl]
  congr 2
  unfold L2.cutS
  rw [S_list, S_len, HT.sIx_none, HT.sIx_nat, List.drop_zero, Nat.min_eq_left h, Nat.sub_zero]
theorem nodup_take {cs : List Nat} (h : cs.Nodup) {i : Nat} {c : Nat} (e : cs[i]? = some c) : c ∉ cs.take i := fun hc => by
  obtain ⟨j, hj, ej⟩ := List.mem_iff_getElem.mp hc
  rw [List.length_take] at hj
  obtain ⟨hi, ei⟩ := List.getElem?_eq_some_iff.mp e
  rw [List.getElem_take] at ej
  exact List.pairwise_iff_getElem.mp h j i (by omega) hi (by omega) (ej.trans ei.symm)
def bf : SCs := bodyOf c_alphabet_fault 1
theorem fault_sp {cs : List Nat} (h : COK cs) : ∀ m, 1 ≤ m → run T m 5 [.str (S cs), .str (S sgn)] = some (.ret .non []) := by
  refine up fun m _ => ?_
  have hl := h.l1
  have hl6 := h.l6
  obtain ⟨e', h2, x2, x3, rfl⟩ := for_ok (T := T) (calls := run T m) (it := .enum (.var 0)) (tg := .tup [2, 3]) (body := bf) (fun i e => ∃ x2 x3, e = [.fz (.str (S cs)), .fz (.str (S sgn)), x2, x3])
    (env := [.fz (.str (S cs)), .fz (.str (S sgn)), .emp, .emp]) (env1 := [.fz (.str (S cs)), .fz (.str (S sgn)), .emp, .emp]) (items := (cs.map ch).mapIdx fun i x => .tup [.int (i : Nat), x]) (by simp [evSs, evS, evE, evA, evO, evI, bindF, bindX, okO, nxO, setD, cellD, Cell.val, Cell.mine, Cell.put, mineAt, isLst, getAll, RA.get, allV, opT, opD, op1, op2, arith, ints2, boolF, boolX, mutD, callD, DV.argsOk, argsOk2, argOk, ioSl, putOuts, callD.okO', endC, retO', outs, items_str]) ⟨.emp, .emp, rfl⟩ fun j d e hj ⟨x2, x3, ee⟩ => by
      subst ee
      rw [List.getElem?_mapIdx, List.getElem?_map] at hj
      cases q : cs[j]? with
      | none => rw [q] at hj; cases hj
      | some c =>
        rw [q] at hj
        cases hj
        have hlt := (List.getElem?_eq_some_iff.mp q).1
        have hc := h.sub c (List.mem_of_getElem? q)
        have h3 : opD (.sl false true) [.str (S cs), .int (j : Nat)] = some (.str (S (cs.take j))) := slice_S cs j (by omega) (by omega)
        refine ⟨[.fz (.str (S cs)), .fz (.str (S sgn)), .fz (.int (j : Nat)), .fz (ch c)], _, rfl, ?_, .fz (.int (j : Nat)), .fz (ch c), rfl⟩
        have h4 : op2 (.sl false true) (.str (S cs)) (.int (j : Nat)) = some (.str (S (cs.take j))) := h3
        have e1 : eqD (.int (j : Nat)) (.int 6) = some false := by
          show some ((j : Int) == 6) = _
          have : ((j : Int) == 6) = false := by rw [beq_eq_false_iff_ne]; omega
          rw [this]
        have e2 : op2 .notIn (ch c) (.str (S sgn)) = some (.bl false) := by
          show (inD (ch c) (.str (S sgn))).map (fun x => D.bl (!x)) = _
          rw [in_ch, decide_eq_true hc]
          rfl
        have e3 : op2 .isIn (ch c) (.str (S (cs.take j))) = some (.bl false) := by
          show (inD (ch c) (.str (S (cs.take j)))).map D.bl = _
          rw [in_ch, decide_eq_false (nodup_take h.nd q)]
          rfl
        have e0 : op2 .eq (.int (j : Nat)) (.int 6) = some (.bl false) := by
          show (eqD (.int (j : Nat)) (.int 6)).map D.bl = _
          rw [e1]
          rfl
        simp [evSs, evS, evE, evA, bindF, bindX, okO, cellD, Cell.val, getAll, RA.get, opT, opD, boolF, boolX, bf, bodyOf, c_alphabet_fault, e0, e2, e3, h4, show T.glo 2 = some (.int 6) from rfl]
  refine run_S (c := f_alphabet_fault) rfl rfl (by decide) ?_
  show endC f_alphabet_fault (evSs T (run T m) (.cons (.ite (.op .not (.e (.op .tru (.s 0 .nil)) .nil)) _ .nil) (.cons (.for_ (.enum (.var 0)) (.tup [2, 3]) bf) (.cons (.ret (.cst .non)) .nil))) [.fz (.str (S cs)), .fz (.str (S sgn)), .emp, .emp]) = _
  have ht : truD (.str (S cs)) = some true := by
    show (if (S cs).length ≤ 1000000 then some (((S cs).length : Int) != 0) else none) = _
    rw [S_len, if_pos (by omega)]
    have : ((cs.length : Int) != 0) = true := by rw [bne_iff_ne]; omega
    rw [this]
  refine (congrArg (endC f_alphabet_fault) (evSs_cons (env' := [.fz (.str (S cs)), .fz (.str (S sgn)), .emp, .emp]) (by simp [evSs, evS, evE, evA, evO, evI, bindF, bindX, okO, nxO, setD, cellD, Cell.val, Cell.mine, Cell.put, mineAt, isLst, getAll, RA.get, allV, opT, opD, op1, op2, arith, ints2, boolF, boolX, mutD, callD, DV.argsOk, argsOk2, argOk, ioSl, putOuts, callD.okO', endC, retO', outs, ht]) (evSs_cons h2 (evSs_ret (d := .non) (env' := [.fz (.str (S cs)), .fz (.str (S sgn)), x2, x3]) (by simp [evSs, evS, evE, evA, evO, evI, bindF, bindX, okO, nxO, setD, cellD, Cell.val, Cell.mine, Cell.put, mineAt, isLst, getAll, RA.get, allV, opT, opD, op1, op2, arith, ints2, boolF, boolX, mutD, callD, DV.argsOk, argsOk2, argOk, ioSl, putOuts, callD.okO', endC, retO', outs]))))).trans ?_
  simp [evSs, evS, evE, evA, evO, evI, bindF, bindX, okO, nxO, setD, cellD, Cell.val, Cell.mine, Cell.put, mineAt, isLst, getAll, RA.get, allV, opT, opD, op1, op2, arith, ints2, boolF, boolX, mutD, callD, DV.argsOk, argsOk2, argOk, ioSl, putOuts, callD.okO', endC, retO', outs, f_alphabet_fault]
theorem alph_sp {cs : List Nat} (h : COK cs) : ∀ m, 2 ≤ m → run T m 6 [.str (S cs)] = some (.ret .non []) := by
  refine up fun m hm => run_S (c := f_check_alphabet) rfl rfl (by decide) ?_
  have h1 := fault_sp h m hm
  show endC f_check_alphabet (evSs T (run T m) c_check_alphabet [.fz (.str (S cs)), .emp]) = _
  simp [evSs, evS, evE, evA, evO, evI, bindF, bindX, okO, nxO, setD, cellD, Cell.val, Cell.mine, Cell.put, mineAt, isLst, getAll, RA.get, allV, opT, opD, op1, op2, arith, ints2, boolF, boolX, mutD, callD, DV.argsOk, argsOk2, argOk, ioSl, putOuts, callD.okO', endC, retO', outs, c_check_alphabet, h1, show T.code 5 = some f_alphabet_fault from rfl, f_alphabet_fault, show T.glo 1 = some (.str (S sgn)) from rfl, f_check_alphabet]
theorem state_sp {s n : Int} (h0 : 0 ≤ s) (h1 : s < n) : ∀ m, 1 ≤ m → run T m 7 [.int s, .int n] = some (.ret .non []) := by
  refine up fun m hm => run_S (c := f_check_state) rfl rfl (by decide) ?_
  show endC f_check_state (evSs T (run T m) c_check_state [.fz (.int s), .fz (.int n)]) = _
  simp [evSs, evS, evE, evA, evO, evI, bindF, bindX, okO, nxO, setD, cellD, Cell.val, Cell.mine, Cell.put, mineAt, isLst, getAll, RA.get, allV, opT, opD, op1, op2, arith, ints2, boolF, boolX, mutD, callD, DV.argsOk, argsOk2, argOk, ioSl, putOuts, callD.okO', endC, retO', outs, c_check_state, f_check_state, h0, h1]
def bs : SCs := bodyOf c_checked_states 0
theorem states_sp {r : List Int} {n : Nat} (h : Ent n r) : ∀ m, 2 ≤ m → run T m 8 [.lst (I r), .int n] = some (.ret (.tup (I r)) []) := by
  refine up fun m hm => run_S (c := f_checked_states) rfl rfl (by decide) ?_
  obtain ⟨e', h2, x2, rfl⟩ := for_ok (T := T) (calls := run T m) (it := .seq (.var 0)) (tg := .name 2) (body := bs) (fun i e => ∃ x2, e = [.fz (.lst (I r)), .fz (.int n), x2])
    (env := [.fz (.lst (I r)), .fz (.int n), .emp]) (evI_seq (d := .lst (I r)) (ds := I r) (env' := [.fz (.lst (I r)), .fz (.int n), .emp]) (by simp [evSs, evS, evE, evA, evO, evI, bindF, bindX, okO, nxO, setD, cellD, Cell.val, Cell.mine, Cell.put, mineAt, isLst, getAll, RA.get, allV, opT, opD, op1, op2, arith, ints2, boolF, boolX, mutD, callD, DV.argsOk, argsOk2, argOk, ioSl, putOuts, callD.okO', endC, retO', outs]) rfl) ⟨.emp, rfl⟩ fun j d e hj ⟨x2, ee⟩ => by
      subst ee
      obtain ⟨s, hs, rfl⟩ := List.mem_map.mp (List.mem_of_getElem? hj)
      obtain ⟨s0, s1⟩ := h s hs
      have h1 := state_sp s0 s1 m hm
      exact ⟨[.fz (.lst (I r)), .fz (.int n), .fz (.int s)], _, rfl, by simp [evSs, evS, evE, evA, evO, evI, bindF, bindX, okO, nxO, setD, cellD, Cell.val, Cell.mine, Cell.put, mineAt, isLst, getAll, RA.get, allV, opT, opD, op1, op2, arith, ints2, boolF, boolX, mutD, callD, DV.argsOk, argsOk2, argOk, ioSl, putOuts, callD.okO', endC, retO', outs, bs, bodyOf, c_checked_states, h1, show T.code 7 = some f_check_state from rfl, f_check_state], .fz (.int s), rfl⟩
  show endC f_checked_states (evSs T (run T m) (.cons (.for_ (.seq (.var 0)) (.name 2) bs) (.cons (.ret (.op .tuple (.s 0 .nil))) .nil)) [.fz (.lst (I r)), .fz (.int n), .emp]) = _
  refine (congrArg (endC f_checked_states) (evSs_cons h2 (evSs_ret (d := .tup (I r)) (env' := [.fz (.lst (I r)), .fz (.int n), x2]) (by simp [evSs, evS, evE, evA, evO, evI, bindF, bindX, okO, nxO, setD, cellD, Cell.val, Cell.mine, Cell.put, mineAt, isLst, getAll, RA.get, allV, opT, opD, op1, op2, arith, ints2, boolF, boolX, mutD, callD, DV.argsOk, argsOk2, argOk, ioSl, putOuts, callD.okO', endC, retO', outs])))).trans ?_
  simp [evSs, evS, evE, evA, evO, evI, bindF, bindX, okO, nxO, setD, cellD, Cell.val, Cell.mine, Cell.put, mineAt, isLst, getAll, RA.get, allV, opT, opD, op1, op2, arith, ints2, boolF, boolX, mutD, callD, DV.argsOk, argsOk2, argOk, ioSl, putOuts, callD.okO', endC, retO', outs, f_checked_states]
def bst : SCs := bodyOf c_checked_steps 2
abbrev RT (rows : List (List Int)) : List D := rows.map fun r => .tup (I r)
theorem steps_sp {rows : List (List Int)} {n w : Nat} (hl : rows.length = n) (hn : n ≤ 60) (h : ∀ r ∈ rows, r.length = w ∧ Ent n r) : ∀ m, 3 ≤ m → run T m 9 [.lst (R rows), .int n, .int w] = some (.ret (.tup (RT rows)) []) := by
  refine up fun m hm => run_S (c := f_checked_steps) rfl rfl (by decide) ?_
  have ne : ∀ k : Nat, op2 .ne (.int (k : Nat)) (.int (k : Nat)) = some (.bl false) := fun k => by
    show some (D.bl (!((k : Int) == (k : Int)))) = _
    simp
  obtain ⟨e', h2, x4, rfl⟩ := for_ok (T := T) (calls := run T m) (it := .seq (.var 0)) (tg := .name 4) (body := bst) (fun i e => ∃ x4, e = [.fz (.lst (R rows)), .fz (.int n), .fz (.int w), .own (.lst (RT (rows.take i))), x4])
    (env := [.fz (.lst (R rows)), .fz (.int n), .fz (.int w), .own (.lst []), .emp]) (evI_seq (d := .lst (R rows)) (ds := R rows) (env' := [.fz (.lst (R rows)), .fz (.int n), .fz (.int w), .own (.lst []), .emp]) (by simp [evSs, evS, evE, evA, evO, evI, bindF, bindX, okO, nxO, setD, cellD, Cell.val, Cell.mine, Cell.put, mineAt, isLst, getAll, RA.get, allV, opT, opD, op1, op2, arith, ints2, boolF, boolX, mutD, callD, DV.argsOk, argsOk2, argOk, ioSl, putOuts, callD.okO', endC, retO', outs]) rfl) ⟨.emp, rfl⟩ fun j d e hj ⟨x4, ee⟩ => by
      subst ee
      rw [List.getElem?_map] at hj
      cases q : rows[j]? with
      | none => rw [q] at hj; cases hj
      | some r =>
        rw [q] at hj
        cases hj
        obtain ⟨s0, s1⟩ := h r (List.mem_of_getElem? q)
        have h1 := states_sp s1 m hm
        have ha := mop_app (RT (rows.take j)) (.tup (I r)) (by rw [List.length_map, List.length_take]; omega)
        have ht : RT (rows.take (j + 1)) = RT (rows.take j) ++ [.tup (I r)] := by
          rw [List.take_add_one, q]
          simp
        rw [ht]
        generalize RT (rows.take j) = acc at ha ⊢
        refine ⟨[.fz (.lst (R rows)), .fz (.int n), .fz (.int w), .own (.lst acc), .fz (.lst (I r))], _, rfl, ?_, .fz (.lst (I r)), rfl⟩
        simp [evSs, evS, evE, evA, bindF, bindX, okO, cellD, Cell.val, Cell.mine, Cell.put, mineAt, isLst, getAll, RA.get, allV, opT, opD, op1, boolF, mutD, callD, DV.argsOk, argsOk2, argOk, ioSl, putOuts, callD.okO', bst, bodyOf, c_checked_steps, h1, s0, ne, lenD, ha, show T.code 8 = some f_checked_states from rfl, f_checked_states]
  rw [List.length_map, List.take_length] at h2
  show endC f_checked_steps (evSs T (run T m) (.cons (.ite (.op .ne (.e (.op .len (.s 0 .nil)) (.s 1 .nil))) _ .nil) (.cons (.setO 3 (.lst .nil)) (.cons (.for_ (.seq (.var 0)) (.name 4) bst) (.cons (.ret (.op .tuple (.s 3 .nil))) .nil)))) [.fz (.lst (R rows)), .fz (.int n), .fz (.int w), .emp, .emp]) = _
  refine (congrArg (endC f_checked_steps) (evSs_cons (env' := [.fz (.lst (R rows)), .fz (.int n), .fz (.int w), .emp, .emp]) ?_ (evSs_cons (env' := [.fz (.lst (R rows)), .fz (.int n), .fz (.int w), .own (.lst []), .emp]) (by simp [evSs, evS, evE, evA, evO, evI, bindF, bindX, okO, nxO, setD, cellD, Cell.val, Cell.mine, Cell.put, mineAt, isLst, getAll, RA.get, allV, opT, opD, op1, op2, arith, ints2, boolF, boolX, mutD, callD, DV.argsOk, argsOk2, argOk, ioSl, putOuts, callD.okO', endC, retO', outs]) (evSs_cons h2 (evSs_ret (d := .tup (RT rows)) (env' := [.fz (.lst (R rows)), .fz (.int n), .fz (.int w), .own (.lst (RT rows)), x4]) (by simp [evSs, evS, evE, evA, evO, evI, bindF, bindX, okO, nxO, setD, cellD, Cell.val, Cell.mine, Cell.put, mineAt, isLst, getAll, RA.get, allV, opT, opD, op1, op2, arith, ints2, boolF, boolX, mutD, callD, DV.argsOk, argsOk2, argOk, ioSl, putOuts, callD.okO', endC, retO', outs])))))).trans ?_
  · have hne := ne n
    simp [evSs, evS, evE, evA, bindF, bindX, okO, cellD, Cell.val, getAll, RA.get, opT, opD, op1, boolF, lenD, hl, hne]
  · simp [evSs, evS, evE, evA, evO, evI, bindF, bindX, okO, nxO, setD, cellD, Cell.val, Cell.mine, Cell.put, mineAt, isLst, getAll, RA.get, allV, opT, opD, op1, op2, arith, ints2, boolF, boolX, mutD, callD, DV.argsOk, argsOk2, argOk, ioSl, putOuts, callD.okO', endC, retO', outs, f_checked_steps]
theorem verd_sp {w : Str} (h : w ∈ vw) : ∀ m, 1 ≤ m → run T m 10 [.str w] = some (.ret .non []) := by
  refine up fun m hm => run_S (c := f_check_verdict) rfl rfl (by decide) ?_
  show endC f_check_verdict (evSs T (run T m) c_check_verdict [.fz (.str w)]) = _
  have e : op2 .notIn (.str w) (.wt [.str "in", .str "hung", .str "out"]) = some (.bl false) := by
    rcases List.mem_cons.mp h with rfl | h
    · kernel_rfl
    · rcases List.mem_cons.mp h with rfl | h
      · kernel_rfl
      · rw [List.mem_singleton.mp h]
        kernel_rfl
  simp [evSs, evS, evE, evA, bindF, bindX, okO, cellD, Cell.val, getAll, RA.get, opT, opD, boolF, endC, retO', outs, c_check_verdict, f_check_verdict, e, show T.glo 0 = some (.wt [.str "in", .str "hung", .str "out"]) from rfl]
def bv : SCs := bodyOf c_checked_verdicts 0
theorem verds_sp {ws : List Str} (h : ∀ w ∈ ws, w ∈ vw) : ∀ m, 2 ≤ m → run T m 11 [.lst (W ws)] = some (.ret (.tup (W ws)) []) := by
  refine up fun m hm => run_S (c := f_checked_verdicts) rfl rfl (by decide) ?_
  obtain ⟨e', h2, x2, rfl⟩ := for_ok (T := T) (calls := run T m) (it := .seq (.var 0)) (tg := .name 1) (body := bv) (fun i e => ∃ x2, e = [.fz (.lst (W ws)), x2])
    (env := [.fz (.lst (W ws)), .emp]) (evI_seq (d := .lst (W ws)) (ds := W ws) (env' := [.fz (.lst (W ws)), .emp]) (by simp [evSs, evS, evE, evA, evO, evI, bindF, bindX, okO, nxO, setD, cellD, Cell.val, Cell.mine, Cell.put, mineAt, isLst, getAll, RA.get, allV, opT, opD, op1, op2, arith, ints2, boolF, boolX, mutD, callD, DV.argsOk, argsOk2, argOk, ioSl, putOuts, callD.okO', endC, retO', outs]) rfl) ⟨.emp, rfl⟩ fun j d e hj ⟨x2, ee⟩ => by
      subst ee
      obtain ⟨s, hs, rfl⟩ := List.mem_map.mp (List.mem_of_getElem? hj)
      have h1 := verd_sp (h s hs) m hm
      exact ⟨[.fz (.lst (W ws)), .fz (.str s)], _, rfl, by simp [evSs, evS, evE, evA, evO, evI, bindF, bindX, okO, nxO, setD, cellD, Cell.val, Cell.mine, Cell.put, mineAt, isLst, getAll, RA.get, allV, opT, opD, op1, op2, arith, ints2, boolF, boolX, mutD, callD, DV.argsOk, argsOk2, argOk, ioSl, putOuts, callD.okO', endC, retO', outs, bv, bodyOf, c_checked_verdicts, h1, show T.code 10 = some f_check_verdict from rfl, f_check_verdict], .fz (.str s), rfl⟩
  show endC f_checked_verdicts (evSs T (run T m) (.cons (.for_ (.seq (.var 0)) (.name 1) bv) (.cons (.ret (.op .tuple (.s 0 .nil))) .nil)) [.fz (.lst (W ws)), .emp]) = _
  refine (congrArg (endC f_checked_verdicts) (evSs_cons h2 (evSs_ret (d := .tup (W ws)) (env' := [.fz (.lst (W ws)), x2]) (by simp [evSs, evS, evE, evA, evO, evI, bindF, bindX, okO, nxO, setD, cellD, Cell.val, Cell.mine, Cell.put, mineAt, isLst, getAll, RA.get, allV, opT, opD, op1, op2, arith, ints2, boolF, boolX, mutD, callD, DV.argsOk, argsOk2, argOk, ioSl, putOuts, callD.okO', endC, retO', outs])))).trans ?_
  simp [evSs, evS, evE, evA, evO, evI, bindF, bindX, okO, nxO, setD, cellD, Cell.val, Cell.mine, Cell.put, mineAt, isLst, getAll, RA.get, allV, opT, opD, op1, op2, arith, ints2, boolF, boolX, mutD, callD, DV.argsOk, argsOk2, argOk, ioSl, putOuts, callD.okO', endC, retO', outs, f_checked_verdicts]
/-- the machine -/
def mo (cs : List Nat) (st : Int) (rows : List (List Int)) (ws : List Str) : D := .obj 0 [("alphabet", .str (S cs)), ("start", .int st), ("steps", .tup (RT rows)), ("verdicts", .tup (W ws))]
theorem init_sp {cs : List Nat} {st : Int} {rows : List (List Int)} {ws : List Str} {n : Nat} (h : COK cs) (hg : GOK cs st rows ws n) (hn : n ≤ 60) : ∀ m, 4 ≤ m → run T m 12 [.obj 0 [], .str (S cs), .int st, .lst (R rows), .lst (W ws)] = some (.ret .non [mo cs st rows ws]) := by
  refine up fun m hm => run_S (c := f_Machine___init__) rfl rfl (by decide) ?_
  have h1 := alph_sp h m (by omega)
  have h2 := state_sp hg.st0 hg.st1 m (by omega)
  have h3 := steps_sp hg.rl hn hg.rw m (by omega)
  have h4 := verds_sp hg.wv m (by omega)
  have hw : lenD (.lst (W ws)) = some n := by
    show some (W ws).length = _
    rw [W, List.length_map, hg.wl]
  have hc := len_str cs (by have := h.l6; omega)
  show endC f_Machine___init__ (evSs T (run T m) c_Machine___init__ [.io (.obj 0 []), .fz (.str (S cs)), .fz (.int st), .fz (.lst (R rows)), .fz (.lst (W ws)), .emp, .emp]) = _
  have a1 : T.attr 0 "alphabet" = true := by decide +kernel
  have a2 : T.attr 0 "start" = true := by decide +kernel
  have a3 : T.attr 0 "steps" = true := by decide +kernel
  have a4 : T.attr 0 "verdicts" = true := by decide +kernel
  have n2 : ((["alphabet"] : List Str).contains "start") = false := by decide +kernel
  have n3 : ((["alphabet", "start"] : List Str).contains "steps") = false := by decide +kernel
  have n4 : ((["alphabet", "start", "steps"] : List Str).contains "verdicts") = false := by decide +kernel
  have fs : ∀ (fs : List (Str × D)) (f : Str) (d : D) (r : Ce), T.attr 0 f = true → fs.length < 500 → ((fs.map Prod.fst).contains f) = false → fsetD T 0 f d (.io (.obj 0 fs) :: r) = some (.io (.obj 0 (fs ++ [(f, d)])) :: r) := fun fs f d r b1 b2 b3 => by
    show (if T.attr 0 f = true ∧ fs.length < 500 ∧ (fs.map Prod.fst).contains f = false then some (Cell.io (.obj 0 (fs ++ [(f, d)])) :: r) else none) = _
    rw [if_pos ⟨b1, b2, b3⟩]
  have f1 := fs [] "alphabet" (.str (S cs)) [.fz (.str (S cs)), .fz (.int st), .fz (.lst (R rows)), .fz (.lst (W ws)), .fz (.tup (RT rows)), .fz (.tup (W ws))] a1 (by decide) rfl
  have f2 := fs [("alphabet", .str (S cs))] "start" (.int st) [.fz (.str (S cs)), .fz (.int st), .fz (.lst (R rows)), .fz (.lst (W ws)), .fz (.tup (RT rows)), .fz (.tup (W ws))] a2 (by simp) n2
  have f3 := fs [("alphabet", .str (S cs)), ("start", .int st)] "steps" (.tup (RT rows)) [.fz (.str (S cs)), .fz (.int st), .fz (.lst (R rows)), .fz (.lst (W ws)), .fz (.tup (RT rows)), .fz (.tup (W ws))] a3 (by simp) n3
  have f4 := fs [("alphabet", .str (S cs)), ("start", .int st), ("steps", .tup (RT rows))] "verdicts" (.tup (W ws)) [.fz (.str (S cs)), .fz (.int st), .fz (.lst (R rows)), .fz (.lst (W ws)), .fz (.tup (RT rows)), .fz (.tup (W ws))] a4 (by simp) n4
  simp only [List.nil_append, List.cons_append] at f1 f2 f3 f4
  simp [evSs, evS, evE, evA, evO, evI, bindF, bindX, okO, nxO, setD, cellD, Cell.val, Cell.mine, Cell.put, mineAt, isLst, getAll, RA.get, allV, opT, opD, op1, op2, arith, ints2, boolF, boolX, mutD, callD, DV.argsOk, argsOk2, argOk, ioSl, putOuts, callD.okO', endC, retO', outs, c_Machine___init__, h1, h2, h3, h4, hw, hc, f1, f2, f3, f4, show T.code 6 = some f_check_alphabet from rfl, show T.code 7 = some f_check_state from rfl, show T.code 9 = some f_checked_steps from rfl, show T.code 11 = some f_checked_verdicts from rfl, f_check_alphabet, f_check_state, f_checked_steps, f_checked_verdicts, f_Machine___init__, mo]
end L69


set_option maxRecDepth 100000
set_option maxHeartbeats 4000000
/-! L69e: the object, same, stays, two. -/
namespace L69
open PySem DV P69

theorem object_sp {cs : List Nat} {st : Int} {rows : List (List Int)} {ws : List Str} {n : Nat} (h : COK cs) (hg : GOK cs st rows ws n) (hn : n ≤ 60) : ∀ m, 5 ≤ m → run T m 13 [gv cs st rows ws] = some (.ret (mo cs st rows ws) []) := by
  refine up fun m hm => run_S (c := f__law_object) rfl rfl (by decide) ?_
  have h1 := init_sp h hg hn m hm
  have hl : (R rows).length ≤ 1000000 := by rw [List.length_map, hg.rl]; omega
  have hc := evO_lc (T := T) (calls := run T m) (own := [5]) (it := .seq (.var 3)) (tg := .name 5) (elt := .fr (.op .list (.s 5 .nil))) (env := [.fz (gv cs st rows ws), .fz (.str (S cs)), .fz (.int st), .fz (.lst (R rows)), .fz (.lst (W ws)), .emp]) (env1 := [.fz (gv cs st rows ws), .fz (.str (S cs)), .fz (.int st), .fz (.lst (R rows)), .fz (.lst (W ws)), .emp]) (items := R rows) id
    (evI_seq (d := .lst (R rows)) (by simp [evSs, evS, evE, evA, evO, evI, bindF, bindX, okO, nxO, setD, cellD, Cell.val, Cell.mine, Cell.put, mineAt, isLst, getAll, RA.get, allV, opT, opD, op1, op2, arith, ints2, boolF, boolX, mutD, callD, DV.argsOk, argsOk2, argOk, ioSl, putOuts, callD.okO', endC, retO', outs]) rfl) rfl hl fun x hx => by
      obtain ⟨r, _, rfl⟩ := List.mem_map.mp hx
      exact ⟨[.fz (gv cs st rows ws), .fz (.str (S cs)), .fz (.int st), .fz (.lst (R rows)), .fz (.lst (W ws)), .fz (.lst (I r))], [.fz (gv cs st rows ws), .fz (.str (S cs)), .fz (.int st), .fz (.lst (R rows)), .fz (.lst (W ws)), .fz (.lst (I r))], rfl, by simp [evSs, evS, evE, evA, evO, evI, bindF, bindX, okO, nxO, setD, cellD, Cell.val, Cell.mine, Cell.put, mineAt, isLst, getAll, RA.get, allV, opT, opD, op1, op2, arith, ints2, boolF, boolX, mutD, callD, DV.argsOk, argsOk2, argOk, ioSl, putOuts, callD.okO', endC, retO', outs, fop], rfl⟩
  rw [List.map_id] at hc
  show endC f__law_object (evSs T (run T m) (.cons (.unp true [1, 2, 3, 4] (.var 0)) (.cons (.ret (.new 0 (.e (.var 1) (.e (.var 2) (.e (.fr (.lc [5] (.seq (.var 3)) (.name 5) (.fr (.op .list (.s 5 .nil))))) (.e (.fr (.op .list (.s 4 .nil))) .nil)))))) .nil)) [.fz (gv cs st rows ws), .emp, .emp, .emp, .emp, .emp]) = _
  generalize OC.lc [5] (.seq (.var 3)) (.name 5) (.fr (.op .list (.s 5 .nil))) = oc at hc ⊢
  refine (congrArg (endC f__law_object) (evSs_cons (env' := [.fz (gv cs st rows ws), .fz (.str (S cs)), .fz (.int st), .fz (.lst (R rows)), .fz (.lst (W ws)), .emp]) ?_ (evSs_ret (d := mo cs st rows ws) (env' := [.fz (gv cs st rows ws), .fz (.str (S cs)), .fz (.int st), .fz (.lst (R rows)), .fz (.lst (W ws)), .emp]) ?_))).trans ?_
  · simp [evSs, evS, evE, evA, evO, evI, bindF, bindX, okO, nxO, setD, cellD, Cell.val, Cell.mine, Cell.put, mineAt, isLst, getAll, RA.get, allV, opT, opD, op1, op2, arith, ints2, boolF, boolX, mutD, callD, DV.argsOk, argsOk2, argOk, ioSl, putOuts, callD.okO', endC, retO', outs, gv, setTg]
  · have hf : fop .list [.lst (W ws)] = some (.lst (W ws)) := rfl
    simp only [evS, bindF, evE, evA, bindX, hc, List.getElem?_cons_zero, List.getElem?_cons_succ, okO, evO, cellD, Cell.val, getAll, RA.get, hf, newD, show T.init 0 = some 12 from rfl, show T.code 12 = some f_Machine___init__ from rfl, allV, Option.map_some, h1, List.map_cons, List.map_nil]
    rw [if_pos (by decide)]
  · simp [evSs, evS, evE, evA, evO, evI, bindF, bindX, okO, nxO, setD, cellD, Cell.val, Cell.mine, Cell.put, mineAt, isLst, getAll, RA.get, allV, opT, opD, op1, op2, arith, ints2, boolF, boolX, mutD, callD, DV.argsOk, argsOk2, argOk, ioSl, putOuts, callD.okO', endC, retO', outs, f__law_object]
theorem same_sp {d : D} (h1 : eqD d d = some true) (h2 : ∃ z, reprD d = some z) : ∀ m, 1 ≤ m → run T m 14 [d, d] = some (.ret (.bl true) []) := by
  refine up fun m hm => run_S (c := f__law_same) rfl rfl (by decide) ?_
  obtain ⟨z, h2⟩ := h2
  have e1 : op2 .eq d d = some (.bl true) := by
    show (eqD d d).map D.bl = _
    rw [h1]; rfl
  have e2 : op2 .eq (.str z) (.str z) = some (.bl true) := by
    show some (D.bl (z == z)) = _
    simp
  have e3 : op1 .repr d = some (.str z) := by
    show (reprD d).map D.str = _
    rw [h2]; rfl
  show endC f__law_same (evSs T (run T m) c__law_same [.fz d, .fz d]) = _
  simp [evSs, evS, evE, evA, bindF, bindX, okO, cellD, Cell.val, getAll, RA.get, opT, opD, boolX, endC, retO', outs, c__law_same, f__law_same, e1, e2, e3]
theorem toPys_map {α : Type} (f : α → D) (g : α → PyData) : ∀ {xs : List α}, (∀ x ∈ xs, toPy (f x) = some (g x)) → toPys (xs.map f) = some (xs.map g)
  | [], _ => rfl
  | x :: xs, h => by
    show (match toPy (f x), toPys (xs.map f) with
      | some p, some ps => some (p :: ps)
      | _, _ => none) = _
    rw [h x List.mem_cons_self, toPys_map f g fun y hy => h y (List.mem_cons_of_mem _ hy)]
    rfl
theorem toPy_tup {xs : List D} {ps : List PyData} (h : toPys xs = some ps) : toPy (.tup xs) = some (.tuple ps) := by
  show (toPys xs).map PyData.tuple = _
  rw [h]; rfl
theorem toPys_cons {x : D} {xs : List D} {p : PyData} {ps : List PyData} (h : toPy x = some p) (h' : toPys xs = some ps) : toPys (x :: xs) = some (p :: ps) := by
  show (match toPy x, toPys xs with
      | some p, some ps => some (p :: ps)
      | _, _ => none) = _
  rw [h, h']
theorem small_int {n : Nat} {i : Int} (h : 0 ≤ i ∧ i < n) (hn : n ≤ 60) : i.natAbs < 10 ^ 12 := by omega
/-- the machine's data -/
theorem stays_nice {cs : List Nat} {st : Int} {rows : List (List Int)} {ws : List Str} {n : Nat} (h : COK cs) (hg : GOK cs st rows ws n) (hn : n ≤ 60) :
    eqD (.tup [.str (S cs), .int st, .tup (RT rows), .tup (W ws)]) (.tup [.str (S cs), .int st, .tup (RT rows), .tup (W ws)]) = some true ∧ ∃ z, reprD (.tup [.str (S cs), .int st, .tup (RT rows), .tup (W ws)]) = some z := by
  have hc := h.l6
  have e1 : toPys (RT rows) = some (rows.map fun r => PyData.tuple (r.map .int)) := toPys_map _ _ fun r _ => toPy_tup (toPys_I r)
  have e2 : toPys (W ws) = some (ws.map PyData.str) := toPys_map _ _ fun w _ => rfl
  have hd : toPy (.tup [.str (S cs), .int st, .tup (RT rows), .tup (W ws)]) = some (.tuple [.str (S cs), .int st, .tuple (rows.map fun r => PyData.tuple (r.map .int)), .tuple (ws.map PyData.str)]) :=
    toPy_tup (toPys_cons rfl (toPys_cons rfl (toPys_cons (toPy_tup e1) (toPys_cons (toPy_tup e2) rfl))))
  have vl : ∀ w ∈ vw, PyData.strOk w = true ∧ w.cps.size ≤ 4 := by decide +kernel
  have hi : ∀ r ∈ rows, ∀ x ∈ r, x.natAbs < 10 ^ 12 := fun r hr x hx => small_int ((hg.rw r hr).2 x hx) hn
  refine nice hd (.inl ⟨_, rfl⟩) (b := 12) (w := 20000) ?_ (by decide) (by decide) ?_ ?_ (by decide)
  · show (il 12 (.str (S cs)) && (il 12 (.int st) && (ils 12 (rows.map fun r => PyData.tuple (r.map .int)) && (ils 12 (ws.map PyData.str) && true)))) = true
    have b1 : il 12 (.str (S cs)) = true := by
      show PyData.strOk (S cs) = true
      unfold PyData.strOk
      rw [Array.all_eq_true_iff_forall_mem]
      intro c hc
      have hc' : c ∈ cs := by simpa using hc
      have : ∀ c ∈ sgn, decide (c < 0x110000) = true := by decide +kernel
      exact this c (h.sub c hc')
    have b2 : il 12 (.int st) = true := decide_eq_true (small_int ⟨hg.st0, hg.st1⟩ hn)
    have b3 : ils 12 (rows.map fun r => PyData.tuple (r.map .int)) = true := ils_app fun x hx => by
      obtain ⟨r, hr, rfl⟩ := List.mem_map.mp hx
      exact ils_app fun y hy => by
        obtain ⟨i, hi', rfl⟩ := List.mem_map.mp hy
        exact decide_eq_true (hi r hr i hi')
    have b4 : ils 12 (ws.map PyData.str) = true := ils_app fun x hx => by
      obtain ⟨w, hw, rfl⟩ := List.mem_map.mp hx
      exact (vl w (hg.wv w hw)).1
    rw [b1, b2, b3, b4]
    rfl
  · have d1 : PyData.depthAll (rows.map fun r => PyData.tuple (r.map .int)) ≤ 1 := dep_all fun x hx => by
      obtain ⟨r, hr, rfl⟩ := List.mem_map.mp hx
      show PyData.depthAll (r.map .int) + 1 ≤ 1
      rw [dep_ints]
      exact Nat.le_refl _
    have d2 : PyData.depthAll (ws.map PyData.str) ≤ 0 := dep_all fun x hx => by
      obtain ⟨w, hw, rfl⟩ := List.mem_map.mp hx
      exact Nat.le_refl _
    show max 0 (max 0 (max (PyData.depthAll _ + 1) (max (PyData.depthAll _ + 1) 0))) + 1 ≤ 60
    omega
  · have w1 : PyData.weightAll (rows.map fun r => PyData.tuple (r.map .int)) ≤ (rows.map fun r => PyData.tuple (r.map .int)).length * (294 + 1) := wt_all fun x hx => by
      obtain ⟨r, hr, rfl⟩ := List.mem_map.mp hx
      have := wt_all (k := 48) (xs := r.map PyData.int) fun y hy => by
        obtain ⟨i, hi', rfl⟩ := List.mem_map.mp hy
        exact wt_int (hi r hr i hi') (by decide)
      rw [List.length_map, (hg.rw r hr).1] at this
      show PyData.weightAll (r.map .int) ≤ 294
      have : cs.length * (48 + 1) ≤ 6 * 49 := Nat.mul_le_mul hc (Nat.le_refl _)
      omega
    have w2 : PyData.weightAll (ws.map PyData.str) ≤ (ws.map PyData.str).length * (4 + 1) := wt_all fun x hx => by
      obtain ⟨w, hw, rfl⟩ := List.mem_map.mp hx
      exact (vl w (hg.wv w hw)).2
    rw [List.length_map, hg.rl] at w1
    rw [List.length_map, hg.wl] at w2
    have w3 : (PyData.int st).weight ≤ 48 := wt_int (b := 12) (small_int ⟨hg.st0, hg.st1⟩ hn) (by decide)
    have w4 : (PyData.str (S cs)).weight = cs.length := by
      show (S cs).cps.size = _
      simp
    show (PyData.str (S cs)).weight + 1 + ((PyData.int st).weight + 1 + (PyData.weightAll _ + 1 + (PyData.weightAll _ + 1 + 0))) ≤ 20000
    omega
theorem stays_sp {cs : List Nat} {st : Int} {rows : List (List Int)} {ws : List Str} {n : Nat} (h : COK cs) (hg : GOK cs st rows ws n) (hn : n ≤ 60) : ∀ m, 2 ≤ m → run T m 15 [mo cs st rows ws, gv cs st rows ws] = some (.ret (.bl true) []) := by
  refine up fun m hm => run_S (c := f__law_stays) rfl rfl (by decide) ?_
  obtain ⟨q1, q2⟩ := stays_nice h hg hn
  have h1 := same_sp q1 q2 m hm
  have hl : (R rows).length ≤ 1000000 := by rw [List.length_map, hg.rl]; omega
  have hc := evO_lc (T := T) (calls := run T m) (own := [7]) (it := .seq (.var 5)) (tg := .name 7) (elt := .op .tuple (.s 7 .nil)) (env := [.fz (mo cs st rows ws), .fz (gv cs st rows ws), .emp, .fz (.str (S cs)), .fz (.int st), .fz (.lst (R rows)), .fz (.lst (W ws)), .emp]) (env1 := [.fz (mo cs st rows ws), .fz (gv cs st rows ws), .emp, .fz (.str (S cs)), .fz (.int st), .fz (.lst (R rows)), .fz (.lst (W ws)), .emp]) (items := R rows)
    (fun x => match x with
      | .lst xs => .tup xs
      | x => x)
    (evI_seq (d := .lst (R rows)) (by simp [evSs, evS, evE, evA, evO, evI, bindF, bindX, okO, nxO, setD, cellD, Cell.val, Cell.mine, Cell.put, mineAt, isLst, getAll, RA.get, allV, opT, opD, op1, op2, arith, ints2, boolF, boolX, mutD, callD, DV.argsOk, argsOk2, argOk, ioSl, putOuts, callD.okO', endC, retO', outs]) rfl) rfl hl fun x hx => by
      obtain ⟨r, _, rfl⟩ := List.mem_map.mp hx
      exact ⟨[.fz (mo cs st rows ws), .fz (gv cs st rows ws), .emp, .fz (.str (S cs)), .fz (.int st), .fz (.lst (R rows)), .fz (.lst (W ws)), .fz (.lst (I r))], [.fz (mo cs st rows ws), .fz (gv cs st rows ws), .emp, .fz (.str (S cs)), .fz (.int st), .fz (.lst (R rows)), .fz (.lst (W ws)), .fz (.lst (I r))], rfl, by simp [evSs, evS, evE, evA, evO, evI, bindF, bindX, okO, nxO, setD, cellD, Cell.val, Cell.mine, Cell.put, mineAt, isLst, getAll, RA.get, allV, opT, opD, op1, op2, arith, ints2, boolF, boolX, mutD, callD, DV.argsOk, argsOk2, argOk, ioSl, putOuts, callD.okO', endC, retO', outs], rfl⟩
  rw [List.map_map] at hc
  show endC f__law_stays (evSs T (run T m) (.cons (.unp true [3, 4, 5, 6] (.var 1)) (.cons (.set 2 (.tup (.e (.var 3) (.e (.var 4) (.e (.op .tuple (.e (.fr (.lc [7] (.seq (.var 5)) (.name 7) (.op .tuple (.s 7 .nil)))) .nil)) (.e (.op .tuple (.s 6 .nil)) .nil)))))) (.cons _ .nil))) [.fz (mo cs st rows ws), .fz (gv cs st rows ws), .emp, .emp, .emp, .emp, .emp, .emp]) = _
  generalize OC.lc [7] (.seq (.var 5)) (.name 7) (.op .tuple (.s 7 .nil)) = oc at hc ⊢
  refine (congrArg (endC f__law_stays) (evSs_cons (env' := [.fz (mo cs st rows ws), .fz (gv cs st rows ws), .emp, .fz (.str (S cs)), .fz (.int st), .fz (.lst (R rows)), .fz (.lst (W ws)), .emp]) ?_ (evSs_cons (env' := [.fz (mo cs st rows ws), .fz (gv cs st rows ws), .fz (.tup [.str (S cs), .int st, .tup (RT rows), .tup (W ws)]), .fz (.str (S cs)), .fz (.int st), .fz (.lst (R rows)), .fz (.lst (W ws)), .emp]) ?_
    (evSs_ret (d := .bl true) (env' := [.fz (mo cs st rows ws), .fz (gv cs st rows ws), .fz (.tup [.str (S cs), .int st, .tup (RT rows), .tup (W ws)]), .fz (.str (S cs)), .fz (.int st), .fz (.lst (R rows)), .fz (.lst (W ws)), .emp]) ?_)))).trans ?_
  · simp [evSs, evS, evE, evA, evO, evI, bindF, bindX, okO, nxO, setD, cellD, Cell.val, Cell.mine, Cell.put, mineAt, isLst, getAll, RA.get, allV, opT, opD, op1, op2, arith, ints2, boolF, boolX, mutD, callD, DV.argsOk, argsOk2, argOk, ioSl, putOuts, callD.okO', endC, retO', outs, gv, setTg]
  · simp only [evS, bindF, evE, evA, bindX, hc, List.getElem?_cons_zero, List.getElem?_cons_succ, okO, cellD, Cell.val, getAll, RA.get, opT, opD, op1, allV, Option.map_some]
    rw [if_pos (by simp)]
    rfl
  · have a1 : T.attr 0 "alphabet" = true := by decide +kernel
    have a2 : T.attr 0 "start" = true := by decide +kernel
    have a3 : T.attr 0 "steps" = true := by decide +kernel
    have a4 : T.attr 0 "verdicts" = true := by decide +kernel
    have fl : ∀ f, T.attr 0 f = true → opT T (.fld f) [mo cs st rows ws] = List.lookup f [("alphabet", .str (S cs)), ("start", .int st), ("steps", .tup (RT rows)), ("verdicts", .tup (W ws))] := fun f hf => if_pos hf
    have f1 : opT T (.fld "alphabet") [mo cs st rows ws] = some (.str (S cs)) := (fl _ a1).trans (by kernel_rfl)
    have f2 : opT T (.fld "start") [mo cs st rows ws] = some (.int st) := (fl _ a2).trans (by kernel_rfl)
    have f3 : opT T (.fld "steps") [mo cs st rows ws] = some (.tup (RT rows)) := (fl _ a3).trans (by kernel_rfl)
    have f4 : opT T (.fld "verdicts") [mo cs st rows ws] = some (.tup (W ws)) := (fl _ a4).trans (by kernel_rfl)
    simp [evS, evE, evA, bindF, bindX, okO, cellD, Cell.val, getAll, RA.get, allV, callD, DV.argsOk, argsOk2, argOk, ioSl, putOuts, callD.okO', f1, f2, f3, f4, h1, show T.code 14 = some f__law_same from rfl, f__law_same]
  · simp [evSs, evS, evE, evA, evO, evI, bindF, bindX, okO, nxO, setD, cellD, Cell.val, Cell.mine, Cell.put, mineAt, isLst, getAll, RA.get, allV, opT, opD, op1, op2, arith, ints2, boolF, boolX, mutD, callD, DV.argsOk, argsOk2, argOk, ioSl, putOuts, callD.okO', endC, retO', outs, f__law_stays]
end L69


set_option maxRecDepth 100000
set_option maxHeartbeats 4000000
/-! L69f: counting forward, backward, by listing: the same numbers. -/
namespace L69
open PySem DV P69

def at_ (w : List Int) (x : Int) : Int := w.getD x.toNat 0
def sumAt (w r : List Int) : Int := (r.map (at_ w)).sum
def wstep (rows : List (List Int)) (w : List Int) : List Int := rows.map (sumAt w)
def w0 (v : Str) (ws : List Str) : List Int := ws.map fun u => if u == v then 1 else 0
def wN (rows : List (List Int)) (v : Str) (ws : List Str) : Nat → List Int
  | 0 => w0 v ws
  | t + 1 => wstep rows (wN rows v ws t)
def rowAt (rows : List (List Int)) (p : Int) : List Int := rows.getD p.toNat []
def lN (rows : List (List Int)) (st : Int) : Nat → List Int
  | 0 => [st]
  | t + 1 => (lN rows st t).flatMap (rowAt rows)
def addAt (f : List Int) (x m : Int) : List Int := f.set x.toNat (at_ f x + m)
def addAll (f : List Int) (m : Int) (row : List Int) : List Int := row.foldl (fun f x => addAt f x m) f
def addRows (f : List Int) (rs : List (Int × List Int)) : List Int := rs.foldl (fun f p => addAll f p.1 p.2) f
def rN (rows : List (List Int)) (st : Int) (n : Nat) : Nat → List Int
  | 0 => (List.replicate n 0).set st.toNat 1
  | t + 1 => addRows (List.replicate n 0) ((rN rows st n t).zip rows)
def dot (r w : List Int) : Int := ((r.zip w).map fun p => p.1 * p.2).sum
def sumOf (v : Str) (r : List Int) (ws : List Str) : Int := (((r.zip ws).filter fun p => p.2 == v).map Prod.fst).sum

theorem at_lt {w : List Int} {x : Int} (h0 : 0 ≤ x) (h1 : x < w.length) : ∃ h : x.toNat < w.length, at_ w x = w[x.toNat] := by
  have h : x.toNat < w.length := by omega
  exact ⟨h, by unfold at_; rw [List.getD_eq_getElem?_getD, List.getElem?_eq_getElem h]; rfl⟩
theorem addAt_len (f : List Int) (x m : Int) : (addAt f x m).length = f.length := by unfold addAt; rw [List.length_set]
theorem addAll_len : ∀ (row f : List Int) (m : Int), (addAll f m row).length = f.length
  | [], f, m => rfl
  | x :: row, f, m => by
    show (addAll (addAt f x m) m row).length = _
    rw [addAll_len, addAt_len]
theorem addRows_len : ∀ (rs : List (Int × List Int)) (f : List Int), (addRows f rs).length = f.length
  | [], f => rfl
  | p :: rs, f => by
    show (addRows (addAll f p.1 p.2) rs).length = _
    rw [addRows_len, addAll_len]
theorem rN_len (rows : List (List Int)) (st : Int) (n : Nat) : ∀ t, (rN rows st n t).length = n
  | 0 => by simp [rN]
  | t + 1 => by
    show (addRows _ _).length = n
    rw [addRows_len, List.length_replicate]
theorem wN_len {rows : List (List Int)} {v : Str} {ws : List Str} {n : Nat} (h1 : rows.length = n) (h2 : ws.length = n) : ∀ t, (wN rows v ws t).length = n
  | 0 => by simp [wN, w0, h2]
  | t + 1 => by simp [wN, wstep, h1]
theorem dot_set : ∀ (f w : List Int) (i : Nat) (y : Int), i < f.length → f.length = w.length → dot (f.set i y) w = dot f w + (y - f.getD i 0) * w.getD i 0
  | [], _, i, _, h, _ => by cases h
  | _ :: _, [], _, _, _, h => by cases h
  | a :: f, b :: w, 0, y, h, hl => by
    simp [dot, Int.sub_mul]
    omega
  | a :: f, b :: w, i + 1, y, h, hl => by
    have ih := dot_set f w i y (by simpa using h) (by simpa using hl)
    have e1 : dot ((a :: f).set (i + 1) y) (b :: w) = a * b + dot (f.set i y) w := by simp [dot]
    have e2 : dot (a :: f) (b :: w) = a * b + dot f w := by simp [dot]
    rw [e1, e2, ih]
    simp
    omega
theorem dot_addAt {f w : List Int} {x m : Int} (h0 : 0 ≤ x) (h1 : x < f.length) (hl : f.length = w.length) : dot (addAt f x m) w = dot f w + m * at_ w x := by
  unfold addAt
  rw [dot_set f w x.toNat _ (by omega) hl]
  unfold at_
  congr 2
  omega
theorem dot_addAll : ∀ (row f w : List Int) (m : Int), (∀ x ∈ row, 0 ≤ x ∧ x < f.length) → f.length = w.length → dot (addAll f m row) w = dot f w + m * sumAt w row
  | [], f, w, m, _, _ => by simp [addAll, sumAt]
  | x :: row, f, w, m, h, hl => by
    obtain ⟨h0, h1⟩ := h x List.mem_cons_self
    show dot (addAll (addAt f x m) m row) w = _
    rw [dot_addAll row (addAt f x m) w m (fun y hy => by rw [addAt_len]; exact h y (List.mem_cons_of_mem _ hy)) (by rw [addAt_len]; exact hl), dot_addAt h0 h1 hl]
    show _ = dot f w + m * (at_ w x + sumAt w row)
    rw [Int.mul_add]
    omega
theorem dot_addRows : ∀ (rs : List (Int × List Int)) (f w : List Int), (∀ p ∈ rs, ∀ x ∈ p.2, 0 ≤ x ∧ x < f.length) → f.length = w.length → dot (addRows f rs) w = dot f w + (rs.map fun p => p.1 * sumAt w p.2).sum
  | [], f, w, _, _ => by simp [addRows]
  | p :: rs, f, w, h, hl => by
    show dot (addRows (addAll f p.1 p.2) rs) w = _
    rw [dot_addRows rs (addAll f p.1 p.2) w (fun q hq => by rw [addAll_len]; exact h q (List.mem_cons_of_mem _ hq)) (by rw [addAll_len]; exact hl), dot_addAll p.2 f w p.1 (h p List.mem_cons_self) hl]
    simp
    omega
theorem dot_zero : ∀ (n : Nat) (w : List Int), dot (List.replicate n 0) w = 0
  | 0, w => by simp [dot]
  | n + 1, [] => by simp [dot]
  | n + 1, b :: w => by
    have e : dot (List.replicate (n + 1) 0) (b :: w) = 0 * b + dot (List.replicate n 0) w := by simp [dot, List.replicate_succ]
    rw [e, dot_zero n w]
    simp
theorem dot_map : ∀ (r : List Int) (rows : List (List Int)) (w : List Int), dot r (rows.map (sumAt w)) = ((r.zip rows).map fun p => p.1 * sumAt w p.2).sum
  | [], rows, w => by simp [dot]
  | a :: r, [], w => by simp [dot]
  | a :: r, row :: rows, w => by
    have ih := dot_map r rows w
    have e : dot (a :: r) ((row :: rows).map (sumAt w)) = a * sumAt w row + dot r (rows.map (sumAt w)) := by simp [dot]
    rw [e, ih]
    simp
/-- one step forward is one step backward -/
theorem dot_step {rows : List (List Int)} {r w : List Int} {n : Nat} (hr : ∀ row ∈ rows, Ent n row) (hw : w.length = n) : dot (addRows (List.replicate n 0) (r.zip rows)) w = dot r (wstep rows w) := by
  rw [dot_addRows _ _ _ (fun p hp x hx => ?_) (by rw [List.length_replicate, hw]), dot_zero, Int.zero_add]
  · exact (dot_map r rows w).symm
  · rw [List.length_replicate]
    exact hr p.2 (List.of_mem_zip hp).2 x hx
theorem dot_w0 (v : Str) : ∀ (r : List Int) (ws : List Str), dot r (w0 v ws) = sumOf v r ws
  | [], ws => by simp [dot, sumOf]
  | a :: r, [] => by simp [dot, sumOf, w0]
  | a :: r, u :: ws => by
    have ih := dot_w0 v r ws
    have e : dot (a :: r) (w0 v (u :: ws)) = a * (if u == v then 1 else 0) + dot r (w0 v ws) := by simp [dot, w0]
    rw [e, ih]
    unfold sumOf
    rw [List.zip_cons_cons]
    by_cases h : (u == v) = true
    · rw [List.filter_cons_of_pos (by exact h), if_pos h]
      simp
    · rw [List.filter_cons_of_neg (by exact h), if_neg h]
      simp
theorem dot_start {w : List Int} {st : Int} {n : Nat} (h0 : 0 ≤ st) (h1 : st < n) (hw : w.length = n) : dot ((List.replicate n 0).set st.toNat 1) w = at_ w st := by
  rw [dot_set _ _ _ _ (by rw [List.length_replicate]; omega) (by rw [List.length_replicate, hw]), dot_zero]
  have : (List.replicate n (0 : Int)).getD st.toNat 0 = 0 := by
    rw [List.getD_eq_getElem?_getD, List.getElem?_replicate]
    split <;> rfl
  rw [this]
  unfold at_
  omega
theorem fwd_gen {rows : List (List Int)} {v : Str} {ws : List Str} {st : Int} {n : Nat} (hr : ∀ row ∈ rows, Ent n row) (h1 : rows.length = n) (h2 : ws.length = n) (s0 : 0 ≤ st) (s1 : st < n) :
    ∀ t k, dot (rN rows st n t) (wN rows v ws k) = at_ (wN rows v ws (t + k)) st
  | 0, k => by
    rw [Nat.zero_add]
    exact dot_start s0 s1 (wN_len h1 h2 k)
  | t + 1, k => by
    show dot (addRows (List.replicate n 0) ((rN rows st n t).zip rows)) _ = _
    rw [dot_step hr (wN_len h1 h2 k), show t + 1 + k = t + (k + 1) by omega]
    exact fwd_gen hr h1 h2 s0 s1 t (k + 1)
/-- counting forward -/
theorem fwd {rows : List (List Int)} {v : Str} {ws : List Str} {st : Int} {n : Nat} (hr : ∀ row ∈ rows, Ent n row) (h1 : rows.length = n) (h2 : ws.length = n) (s0 : 0 ≤ st) (s1 : st < n) (t : Nat) : sumOf v (rN rows st n t) ws = at_ (wN rows v ws t) st := by
  rw [← dot_w0]
  exact fwd_gen hr h1 h2 s0 s1 t 0
theorem lN_ent {rows : List (List Int)} {st : Int} {n : Nat} (hr : ∀ row ∈ rows, Ent n row) (h1 : rows.length = n) (s0 : 0 ≤ st) (s1 : st < n) : ∀ t, Ent n (lN rows st t)
  | 0 => fun x hx => by rw [List.mem_singleton.mp hx]; exact ⟨s0, s1⟩
  | t + 1 => fun x hx => by
    obtain ⟨p, hp, hx⟩ := List.mem_flatMap.mp hx
    obtain ⟨p0, p1⟩ := lN_ent hr h1 s0 s1 t p hp
    have : p.toNat < rows.length := by omega
    unfold rowAt at hx
    rw [List.getD_eq_getElem?_getD, List.getElem?_eq_getElem this] at hx
    exact hr _ (List.getElem_mem this) x hx
theorem sumAt_flat {rows : List (List Int)} {w : List Int} {n : Nat} (h1 : rows.length = n) : ∀ l : List Int, Ent n l → sumAt w (l.flatMap (rowAt rows)) = sumAt (wstep rows w) l
  | [], _ => rfl
  | p :: l, h => by
    obtain ⟨p0, p1⟩ := h p List.mem_cons_self
    have hp : p.toNat < rows.length := by omega
    have e1 : sumAt w (rowAt rows p ++ l.flatMap (rowAt rows)) = sumAt w (rowAt rows p) + sumAt w (l.flatMap (rowAt rows)) := by simp [sumAt]
    have e2 : at_ (wstep rows w) p = sumAt w (rowAt rows p) := by
      unfold at_ wstep rowAt
      rw [List.getD_eq_getElem?_getD, List.getD_eq_getElem?_getD, List.getElem?_map, List.getElem?_eq_getElem hp]
      rfl
    rw [List.flatMap_cons, e1, sumAt_flat h1 l fun x hx => h x (List.mem_cons_of_mem _ hx), ← e2]
    rfl
theorem lst_gen {rows : List (List Int)} {v : Str} {ws : List Str} {st : Int} {n : Nat} (hr : ∀ row ∈ rows, Ent n row) (h1 : rows.length = n) (s0 : 0 ≤ st) (s1 : st < n) : ∀ t k, sumAt (wN rows v ws k) (lN rows st t) = at_ (wN rows v ws (t + k)) st
  | 0, k => by
    rw [Nat.zero_add]
    show at_ _ st + 0 = _
    omega
  | t + 1, k => by
    show sumAt _ ((lN rows st t).flatMap (rowAt rows)) = _
    rw [sumAt_flat h1 _ (lN_ent hr h1 s0 s1 t), show t + 1 + k = t + (k + 1) by omega]
    exact lst_gen hr h1 s0 s1 t (k + 1)
/-- counting all one by one -/
theorem lstd {rows : List (List Int)} {v : Str} {ws : List Str} {st : Int} {n : Nat} (hr : ∀ row ∈ rows, Ent n row) (h1 : rows.length = n) (s0 : 0 ≤ st) (s1 : st < n) (t : Nat) : sumAt (w0 v ws) (lN rows st t) = at_ (wN rows v ws t) st := lst_gen hr h1 s0 s1 t 0
theorem lN_len {rows : List (List Int)} {st : Int} {n c : Nat} (hr : ∀ row ∈ rows, row.length = c ∧ Ent n row) (h1 : rows.length = n) (s0 : 0 ≤ st) (s1 : st < n) : ∀ t, (lN rows st t).length = c ^ t
  | 0 => rfl
  | t + 1 => by
    have hE := lN_ent (fun row h => (hr row h).2) h1 s0 s1 t
    have ih := lN_len hr h1 s0 s1 t
    have G : ∀ l : List Int, Ent n l → (l.flatMap (rowAt rows)).length = l.length * c := fun l => by
      induction l with
      | nil => intro _; simp
      | cons p l ihl =>
        intro h
        obtain ⟨p0, p1⟩ := h p List.mem_cons_self
        have hp : p.toNat < rows.length := by omega
        have : (rowAt rows p).length = c := by
          unfold rowAt
          rw [List.getD_eq_getElem?_getD, List.getElem?_eq_getElem hp]
          exact (hr _ (List.getElem_mem hp)).1
        rw [List.flatMap_cons, List.length_append, this, ihl fun x hx => h x (List.mem_cons_of_mem _ hx), List.length_cons, Nat.succ_mul]
        omega
    show ((lN rows st t).flatMap (rowAt rows)).length = _
    rw [G _ hE, ih, Nat.pow_succ]
/-- how great the numbers get -/
theorem wN_bd {rows : List (List Int)} {v : Str} {ws : List Str} {n c : Nat} (hr : ∀ row ∈ rows, row.length = c ∧ Ent n row) (h1 : rows.length = n) (h2 : ws.length = n) : ∀ t, ∀ y ∈ wN rows v ws t, 0 ≤ y ∧ y ≤ ((c ^ t : Nat) : Int)
  | 0 => fun y hy => by
    obtain ⟨u, _, rfl⟩ := List.mem_map.mp hy
    split <;> simp
  | t + 1 => fun y hy => by
    obtain ⟨row, hrow, rfl⟩ := List.mem_map.mp hy
    obtain ⟨hc, hE⟩ := hr row hrow
    have ih := wN_bd (v := v) (ws := ws) hr h1 h2 t
    have hl := wN_len (v := v) h1 h2 t
    have G : ∀ l : List Int, Ent n l → 0 ≤ sumAt (wN rows v ws t) l ∧ sumAt (wN rows v ws t) l ≤ ((l.length * c ^ t : Nat) : Int) := fun l => by
      induction l with
      | nil => intro _; simp [sumAt]
      | cons x l ihl =>
        intro h
        obtain ⟨x0, x1⟩ := h x List.mem_cons_self
        obtain ⟨q, e⟩ := at_lt (w := wN rows v ws t) x0 (by rw [hl]; exact x1)
        obtain ⟨b0, b1⟩ := ih _ (List.getElem_mem q)
        obtain ⟨i0, i1⟩ := ihl fun y hy => h y (List.mem_cons_of_mem _ hy)
        have es : sumAt (wN rows v ws t) (x :: l) = at_ (wN rows v ws t) x + sumAt (wN rows v ws t) l := rfl
        rw [es, e, List.length_cons, Nat.succ_mul]
        rw [Int.natCast_add]
        constructor <;> omega
    obtain ⟨g0, g1⟩ := G row hE
    rw [hc] at g1
    refine ⟨g0, ?_⟩
    rw [Nat.pow_succ, Nat.mul_comm]
    exact g1
theorem ways_bd {rows : List (List Int)} {v : Str} {ws : List Str} {st : Int} {n c : Nat} (hr : ∀ row ∈ rows, row.length = c ∧ Ent n row) (h1 : rows.length = n) (h2 : ws.length = n) (s0 : 0 ≤ st) (s1 : st < n) (t : Nat) : 0 ≤ at_ (wN rows v ws t) st ∧ at_ (wN rows v ws t) st ≤ ((c ^ t : Nat) : Int) := by
  obtain ⟨q, e⟩ := at_lt (w := wN rows v ws t) s0 (by rw [wN_len h1 h2]; exact s1)
  rw [e]
  exact wN_bd hr h1 h2 t _ (List.getElem_mem q)
end L69


set_option maxRecDepth 100000
set_option maxHeartbeats 4000000
/-! L69g: count_texts run. -/
namespace L69
open PySem DV P69

theorem fld_mo {cs : List Nat} {st : Int} {rows : List (List Int)} {ws : List Str} {f : Str} (hf : T.attr 0 f = true) : opT T (.fld f) [mo cs st rows ws] = List.lookup f [("alphabet", .str (S cs)), ("start", .int st), ("steps", .tup (RT rows)), ("verdicts", .tup (W ws))] := if_pos hf
theorem toInts_I : ∀ l : List Int, toInts (I l) = some l
  | [] => rfl
  | x :: l => by
    show (toInts (I l)).map (x :: ·) = _
    rw [toInts_I l]; rfl
def pS (v : Str) : D → Bool
  | .tup [_, .str u] => u == v
  | _ => false
def fS : D → D
  | .tup [d, _] => d
  | d => d
theorem filt_zip (v : Str) : ∀ (r : List Int) (ws : List Str), ((((I r).zip (W ws)).map fun p => D.tup [p.1, p.2]).filter (pS v)).map fS = I (((r.zip ws).filter fun p => p.2 == v).map Prod.fst)
  | [], ws => by simp
  | a :: r, [] => by simp [W]
  | a :: r, u :: ws => by
    have ih := filt_zip v r ws
    show ((D.tup [D.int a, D.str u] :: (((I r).zip (W ws)).map fun p => D.tup [p.1, p.2])).filter (pS v)).map fS = _
    rw [List.zip_cons_cons]
    by_cases h : (u == v) = true
    · rw [List.filter_cons_of_pos (by exact h), List.filter_cons_of_pos (by exact h), List.map_cons, ih]
      rfl
    · rw [List.filter_cons_of_neg (by exact h), List.filter_cons_of_neg (by exact h), ih]
theorem sumof_sp {v : Str} {r : List Int} {ws : List Str} (hl : ws.length ≤ 100) : ∀ m, 1 ≤ m → run T m 17 [.str v, .lst (I r), .tup (W ws)] = some (.ret (.int (sumOf v r ws)) []) := by
  refine up fun m hm => run_S (c := f__sum_of) rfl rfl (by decide) ?_
  have hz : ((I r).zip (W ws)).length ≤ 100 := by
    rw [List.length_zip, W, List.length_map, List.length_map]
    omega
  have hc := evO_lci (T := T) (calls := run T m) (own := [3, 4]) (it := .zip (.var 1) (.var 2)) (tg := .tup [3, 4]) (cd := .op .eq (.s 4 (.s 0 .nil))) (elt := .var 3) (env := [.fz (.str v), .fz (.lst (I r)), .fz (.tup (W ws)), .emp, .emp]) (env1 := [.fz (.str v), .fz (.lst (I r)), .fz (.tup (W ws)), .emp, .emp])
    (items := ((I r).zip (W ws)).map fun p => .tup [p.1, p.2]) (pS v) fS (by simp [evSs, evS, evE, evA, evO, evI, bindF, bindX, okO, nxO, setD, cellD, Cell.val, Cell.mine, Cell.put, mineAt, isLst, getAll, RA.get, allV, opT, opD, op1, op2, arith, ints2, boolF, boolX, mutD, callD, DV.argsOk, argsOk2, argOk, ioSl, putOuts, callD.okO', endC, retO', outs, itemsD]) rfl (by rw [List.length_map]; omega) fun x hx => by
      obtain ⟨p, hp, rfl⟩ := List.mem_map.mp hx
      obtain ⟨h1, h2⟩ := List.of_mem_zip hp
      obtain ⟨a, _, e1⟩ := List.mem_map.mp h1
      obtain ⟨u, _, e2⟩ := List.mem_map.mp h2
      rw [← e1, ← e2]
      refine ⟨[.fz (.str v), .fz (.lst (I r)), .fz (.tup (W ws)), .fz (.int a), .fz (.str u)], [.fz (.str v), .fz (.lst (I r)), .fz (.tup (W ws)), .fz (.int a), .fz (.str u)], rfl, ?_, rfl, fun _ => ⟨[.fz (.str v), .fz (.lst (I r)), .fz (.tup (W ws)), .fz (.int a), .fz (.str u)], ?_, rfl⟩⟩
      · have e : op2 .eq (.str u) (.str v) = some (.bl (pS v (.tup [.int a, .str u]))) := rfl
        simp [evSs, evS, evE, evA, bindX, okO, cellD, Cell.val, getAll, RA.get, opT, opD, e]
      · simp [evSs, evS, evE, evA, evO, evI, bindF, bindX, okO, nxO, setD, cellD, Cell.val, Cell.mine, Cell.put, mineAt, isLst, getAll, RA.get, allV, opT, opD, op1, op2, arith, ints2, boolF, boolX, mutD, callD, DV.argsOk, argsOk2, argOk, ioSl, putOuts, callD.okO', endC, retO', outs, fS]
  rw [filt_zip] at hc
  show endC f__sum_of (evSs T (run T m) (.cons (.ret (.op .sum (.e (.fr (.lci [3, 4] (.zip (.var 1) (.var 2)) (.tup [3, 4]) (.op .eq (.s 4 (.s 0 .nil))) (.var 3))) .nil))) .nil) [.fz (.str v), .fz (.lst (I r)), .fz (.tup (W ws)), .emp, .emp]) = _
  generalize OC.lci [3, 4] (.zip (.var 1) (.var 2)) (.tup [3, 4]) (.op .eq (.s 4 (.s 0 .nil))) (.var 3) = oc at hc ⊢
  have hs : op1 .sum (.lst (I (((r.zip ws).filter fun p => p.2 == v).map Prod.fst))) = some (.int (sumOf v r ws)) := by
    show (toInts (I _)).map (fun ns => D.int ns.sum) = _
    rw [toInts_I]
    rfl
  simp only [evSs, evS, evE, evA, bindF, bindX, hc, okO, getAll, RA.get, opT, opD, hs, endC, retO', outs, f__sum_of]
theorem len_sp {cs : List Nat} {st : Int} {rows : List (List Int)} {ws : List Str} : ∀ m, 1 ≤ m → run T m 16 [mo cs st rows ws] = some (.ret (.int (ws.length : Nat)) []) := by
  refine up fun m hm => run_S (c := f_Machine___len__) rfl rfl (by decide) ?_
  have a4 : T.attr 0 "verdicts" = true := by decide +kernel
  have f4 : opT T (.fld "verdicts") [mo cs st rows ws] = some (.tup (W ws)) := (fld_mo a4).trans (by kernel_rfl)
  have hl : lenD (.tup (W ws)) = some ws.length := by
    show some (W ws).length = _
    rw [W, List.length_map]
  have f5 : opT T .len [.tup (W ws)] = some (.int (ws.length : Nat)) := by
    show (lenD (.tup (W ws))).map (fun n => D.int (n : Nat)) = _
    rw [hl]; rfl
  show endC f_Machine___len__ (evSs T (run T m) c_Machine___len__ [.fz (mo cs st rows ws)]) = _
  simp only [c_Machine___len__, evSs, evS, evE, evA, bindF, bindX, okO, cellD, Cell.val, List.getElem?_cons_zero, getAll, RA.get, f4, f5, endC, retO', outs, f_Machine___len__]
theorem aug_step {m : Nat} {c0 c1 c2 c3 c6 c8 : Cell} {f : List Int} {x k : Int} (h0 : 0 ≤ x) (h1 : x < f.length) :
    evS T (run T m) (.augI 4 .add (.var 7) (.var 5)) [c0, c1, c2, c3, .own (.lst (I f)), .fz (.int k), c6, .fz (.int x), c8] = some (.nx [c0, c1, c2, c3, .own (.lst (I (addAt f x k))), .fz (.int k), c6, .fz (.int x), c8]) := by
  obtain ⟨q, e⟩ := at_lt h0 h1
  have hix : L2.ixN (I f).length x = some x.toNat := by
    unfold L2.ixN
    rw [List.length_map, if_pos h0, if_pos h1]
  have ha : opD .idx [.lst (I f), .int x] = some (.int (at_ f x)) := by
    show L2.atI (I f) x = _
    unfold L2.atI
    rw [hix, e]
    show (I f)[x.toNat]? = _
    rw [List.getElem?_map, List.getElem?_eq_getElem q]
    rfl
  have hp : mop .put (.lst (I f)) [.int x, .int (at_ f x + k)] = some (.non, .lst (I (addAt f x k))) := by
    show (L2.ixN (I f).length x).map (fun j => (D.non, D.lst ((I f).set j (.int (at_ f x + k))))) = _
    rw [hix]
    unfold addAt I
    rw [List.map_set]
    rfl
  simp only [evS, bindF, evE, List.getElem?_cons_zero, List.getElem?_cons_succ, cellD, Cell.val, ha, op2, cat_int, putD, Cell.mine, if_pos, hp, Cell.put, nxO, List.set_cons_succ, List.set_cons_zero]
def ba : SCs := bodyOf c_count_texts 2
def bb : SCs := bodyOf ba 1
def bc : SCs := bodyOf bb 0
theorem bb_step {m : Nat} {c0 c1 c2 c3 x7 c8 : Cell} {f row : List Int} {k : Int} (h : Ent f.length row) :
    ∃ x7', evSs T (run T m) bb [c0, c1, c2, c3, .own (.lst (I f)), .fz (.int k), .fz (.tup (I row)), x7, c8] = some (.nx [c0, c1, c2, c3, .own (.lst (I (addAll f k row))), .fz (.int k), .fz (.tup (I row)), x7', c8]) := by
  obtain ⟨e', h2, x7', rfl⟩ := for_ok (T := T) (calls := run T m) (it := .seq (.var 6)) (tg := .name 7) (body := bc) (fun i e => ∃ x7, e = [c0, c1, c2, c3, .own (.lst (I (addAll f k (row.take i)))), .fz (.int k), .fz (.tup (I row)), x7, c8])
    (env := [c0, c1, c2, c3, .own (.lst (I f)), .fz (.int k), .fz (.tup (I row)), x7, c8]) (env1 := [c0, c1, c2, c3, .own (.lst (I f)), .fz (.int k), .fz (.tup (I row)), x7, c8]) (evI_seq (d := .tup (I row)) (ds := I row) (by simp [evSs, evS, evE, evA, evO, evI, bindF, bindX, okO, nxO, setD, cellD, Cell.val, Cell.mine, Cell.put, mineAt, isLst, getAll, RA.get, allV, opT, opD, op1, op2, arith, ints2, boolF, boolX, mutD, callD, DV.argsOk, argsOk2, argOk, ioSl, putOuts, callD.okO', endC, retO', outs]) rfl) ⟨x7, rfl⟩ fun j d e hj ⟨x7, ee⟩ => by
      subst ee
      rw [List.getElem?_map] at hj
      cases q : row[j]? with
      | none => rw [q] at hj; cases hj
      | some x =>
        rw [q] at hj
        cases hj
        obtain ⟨x0, x1⟩ := h x (List.mem_of_getElem? q)
        have ht : addAll f k (row.take (j + 1)) = addAt (addAll f k (row.take j)) x k := by
          rw [List.take_add_one, q]
          simp [addAll]
        rw [ht]
        refine ⟨[c0, c1, c2, c3, .own (.lst (I (addAll f k (row.take j)))), .fz (.int k), .fz (.tup (I row)), .fz (.int x), c8], _, rfl, evSs_cons (aug_step x0 (by rw [addAll_len]; exact x1)) ?_, .fz (.int x), rfl⟩
        rfl
  rw [List.length_map, List.take_length] at h2
  exact ⟨x7', evSs_cons h2 rfl⟩
theorem mid_step {m : Nat} {cs : List Nat} {st : Int} {rows : List (List Int)} {ws : List Str} {n : Nat} {c1 c3 x5 x6 x7 c8 : Cell} {r : List Int} (hr : ∀ row ∈ rows, Ent n row) (hl : rows.length ≤ 100) :
    ∃ x5' x6' x7', evS T (run T m) (.for_ (.zip (.var 2) (.op (.fld "steps") (.s 0 .nil))) (.tup [5, 6]) bb) [.fz (mo cs st rows ws), c1, .fz (.lst (I r)), c3, .own (.lst (I (List.replicate n 0))), x5, x6, x7, c8] =
      some (.nx [.fz (mo cs st rows ws), c1, .fz (.lst (I r)), c3, .own (.lst (I (addRows (List.replicate n 0) (r.zip rows)))), x5', x6', x7', c8]) := by
  have a3 : T.attr 0 "steps" = true := by decide +kernel
  have f3 : opT T (.fld "steps") [mo cs st rows ws] = some (.tup (RT rows)) := (fld_mo a3).trans (by kernel_rfl)
  obtain ⟨e', h2, x5', x6', x7', rfl⟩ := for_ok (T := T) (calls := run T m) (it := .zip (.var 2) (.op (.fld "steps") (.s 0 .nil))) (tg := .tup [5, 6]) (body := bb) (fun i e => ∃ x5 x6 x7, e = [.fz (mo cs st rows ws), c1, .fz (.lst (I r)), c3, .own (.lst (I (addRows (List.replicate n 0) ((r.zip rows).take i)))), x5, x6, x7, c8])
    (env := [.fz (mo cs st rows ws), c1, .fz (.lst (I r)), c3, .own (.lst (I (List.replicate n 0))), x5, x6, x7, c8]) (env1 := [.fz (mo cs st rows ws), c1, .fz (.lst (I r)), c3, .own (.lst (I (List.replicate n 0))), x5, x6, x7, c8]) (items := (r.zip rows).map fun p => .tup [.int p.1, .tup (I p.2)]) (by
      have hz : ((I r).zip (RT rows)).map (fun p => D.tup [p.1, p.2]) = (r.zip rows).map fun p => .tup [.int p.1, .tup (I p.2)] := by
        rw [List.zip_map, List.map_map]
        rfl
      simp only [evI, evE, evA, bindX, okO, List.getElem?_cons_zero, List.getElem?_cons_succ, cellD, Cell.val, getAll, RA.get, f3, itemsD, hz]) ⟨x5, x6, x7, rfl⟩ fun j d e hj ⟨x5, x6, x7, ee⟩ => by
      subst ee
      rw [List.getElem?_map] at hj
      cases q : (r.zip rows)[j]? with
      | none => rw [q] at hj; cases hj
      | some p =>
        rw [q] at hj
        cases hj
        obtain ⟨k, row⟩ := p
        have hrow := hr row (List.of_mem_zip (List.mem_of_getElem? q)).2
        have ht : addRows (List.replicate n 0) ((r.zip rows).take (j + 1)) = addAll (addRows (List.replicate n 0) ((r.zip rows).take j)) k row := by
          rw [List.take_add_one, q]
          simp [addRows]
        rw [ht]
        obtain ⟨x7', h3⟩ := bb_step (m := m) (c0 := .fz (mo cs st rows ws)) (c1 := c1) (c2 := .fz (.lst (I r))) (c3 := c3) (x7 := x7) (c8 := c8) (f := addRows (List.replicate n 0) ((r.zip rows).take j)) (row := row) (k := k) (by rw [addRows_len, List.length_replicate]; exact hrow)
        exact ⟨_, _, rfl, h3, _, _, _, rfl⟩
  rw [List.length_map, List.take_length] at h2
  exact ⟨x5', x6', x7', h2⟩
theorem rep_sp {n : Nat} (hn : n ≤ 100) : fop .rep [.lst [.int 0], .int (n : Nat)] = some (.lst (I (List.replicate n 0))) := by
  show (if (n : Int).natAbs < 9223372036854775808 ∧ 1 * (n : Int).toNat ≤ 1000000 then some (D.lst (List.replicate (n : Int).toNat [D.int 0]).flatten) else none) = _
  rw [if_pos ⟨by omega, by omega⟩]
  congr 2
  rw [Int.toNat_natCast]
  clear hn
  induction n with
  | zero => rfl
  | succ n ih => rw [List.replicate_succ, List.flatten_cons, ih, List.replicate_succ]; rfl
/-- the answer of count_texts -/
def c3 (rows : List (List Int)) (st : Int) (ws : List Str) (t : Nat) : D := .tup [.int (at_ (wN rows "in" ws t) st), .int (at_ (wN rows "hung" ws t) st), .int (at_ (wN rows "out" ws t) st)]
theorem count_sp {cs : List Nat} {st : Int} {rows : List (List Int)} {ws : List Str} {n : Nat} (hg : GOK cs st rows ws n) (hn : n ≤ 60) {t : Nat} (ht : t ≤ 1000) : ∀ m, 2 ≤ m → run T m 18 [mo cs st rows ws, .int (t : Nat)] = some (.ret (c3 rows st ws t) []) := by
  refine up fun m hm => run_S (c := f_count_texts) rfl rfl (by decide) ?_
  have hlen := len_sp (cs := cs) (st := st) (rows := rows) (ws := ws) m hm
  rw [hg.wl] at hlen
  have hrep := rep_sp (n := n) (by omega)
  have a2 : T.attr 0 "start" = true := by decide +kernel
  have f2 : opT T (.fld "start") [mo cs st rows ws] = some (.int st) := (fld_mo a2).trans (by kernel_rfl)
  have a4 : T.attr 0 "verdicts" = true := by decide +kernel
  have f4 : opT T (.fld "verdicts") [mo cs st rows ws] = some (.tup (W ws)) := (fld_mo a4).trans (by kernel_rfl)
  have mF : methF T "__len__" (mo cs st rows ws) = some 16 := by kernel_rfl
  have s0 := hg.st0
  have s1 := hg.st1
  have hrE : ∀ row ∈ rows, Ent n row := fun row h => (hg.rw row h).2
  have hlx : lenX (.int (n : Nat)) = fun e => some (XR.ok (D.int (n : Nat)) e) := by
    funext e
    show (if 0 ≤ (n : Int) ∧ (n : Int).natAbs < 9223372036854775808 then some (XR.ok (D.int (n : Nat)) e) else none) = _
    rw [if_pos ⟨by omega, by omega⟩]
  have ole : ∀ r : Ce, evE T (run T m) (.olen (.var 0)) (.fz (mo cs st rows ws) :: r) = some (.ok (.int (n : Nat)) (.fz (mo cs st rows ws) :: r)) := fun r => by
    simp only [evE, List.getElem?_cons_zero, bindX, mF, callD, show T.code 16 = some f_Machine___len__ from rfl, show f_Machine___len__.ms = [.fz] from rfl, show f_Machine___len__.ro = false from rfl, DV.argsOk, argsOk2, argOk, ioSl, getAll, RA.get, hlen, putOuts, callD.okO']
    rw [if_pos (by simp)]
    simp only [bindX, hlx]
  have stO : ∀ (i : Nat) (r : Ce), evS T (run T m) (.setO i (.op .rep (.e (.fr (.lst (.e (.cst (.int 0)) .nil))) (.e (.olen (.var 0)) .nil)))) (.fz (mo cs st rows ws) :: r) = nxO (setD i (.own (.lst (I (List.replicate n 0)))) (.fz (mo cs st rows ws) :: r)) := fun i r => by
    have o1 := ole r
    generalize EC.olen (.var 0) = oe at o1 ⊢
    simp [evS, bindF, evO, evA, evE, bindX, allV, o1, getAll, RA.get, hrep, okO]
  have hput : ∀ x3 x4 x5 x6 x7 x8 c1 : Cell, evS T (run T m) (.put 2 (.op (.fld "start") (.s 0 .nil)) (.cst (.int 1))) [.fz (mo cs st rows ws), c1, .own (.lst (I (List.replicate n 0))), x3, x4, x5, x6, x7, x8] = some (.nx [.fz (mo cs st rows ws), c1, .own (.lst (I (rN rows st n 0))), x3, x4, x5, x6, x7, x8]) := fun x3 x4 x5 x6 x7 x8 c1 => by
    have hp : mop .put (.lst (I (List.replicate n 0))) [.int st, .int 1] = some (.non, .lst (I (rN rows st n 0))) := by
      show (L2.ixN (I (List.replicate n 0)).length st).map (fun j => (D.non, D.lst ((I (List.replicate n 0)).set j (.int 1)))) = _
      unfold L2.ixN
      rw [List.length_map, List.length_replicate, if_pos s0, if_pos s1]
      unfold rN I
      rw [List.map_set]
      rfl
    simp only [evS, bindF, evE, evA, bindX, List.getElem?_cons_zero, List.getElem?_cons_succ, cellD, Cell.val, getAll, RA.get, f2, okO, putD, Cell.mine, if_pos, hp, Cell.put, nxO, List.set_cons_succ, List.set_cons_zero]
  obtain ⟨e', h2, c2, x3, x4, x5, x6, x7, hc2, rfl⟩ := for_ok (T := T) (calls := run T m) (it := .rng1 (.var 1)) (tg := .name 3) (body := ba) (fun i e => ∃ c2 x3 x4 x5 x6 x7, (c2 = .own (.lst (I (rN rows st n i))) ∨ c2 = .fz (.lst (I (rN rows st n i)))) ∧ e = [.fz (mo cs st rows ws), .fz (.int (t : Nat)), c2, x3, x4, x5, x6, x7, .emp])
    (env := [.fz (mo cs st rows ws), .fz (.int (t : Nat)), .own (.lst (I (rN rows st n 0))), .emp, .emp, .emp, .emp, .emp, .emp]) (evI_rng1 (n := t) (by simp [evSs, evS, evE, evA, evO, evI, bindF, bindX, okO, nxO, setD, cellD, Cell.val, Cell.mine, Cell.put, mineAt, isLst, getAll, RA.get, allV, opT, opD, op1, op2, arith, ints2, boolF, boolX, mutD, callD, DV.argsOk, argsOk2, argOk, ioSl, putOuts, callD.okO', endC, retO', outs]) (by omega)) ⟨_, .emp, .emp, .emp, .emp, .emp, .inl rfl, rfl⟩ fun j d e hj ⟨c2, x3, x4, x5, x6, x7, hc2, ee⟩ => by
      subst ee
      obtain ⟨hlt, rfl⟩ := rng_get hj
      obtain ⟨y5, y6, y7, h3⟩ := mid_step (m := m) (cs := cs) (st := st) (rows := rows) (ws := ws) (n := n) (c1 := .fz (.int (t : Nat))) (c3 := .fz (.int (j : Nat))) (x5 := x5) (x6 := x6) (x7 := x7) (c8 := .emp) (r := rN rows st n j) hrE (by rw [hg.rl]; omega)
      have h3' : evS T (run T m) (.for_ (.zip (.var 2) (.op (.fld "steps") (.s 0 .nil))) (.tup [5, 6]) bb) [.fz (mo cs st rows ws), .fz (.int (t : Nat)), c2, .fz (.int (j : Nat)), .own (.lst (I (List.replicate n 0))), x5, x6, x7, .emp] =
          some (.nx [.fz (mo cs st rows ws), .fz (.int (t : Nat)), .fz (.lst (I (rN rows st n j))), .fz (.int (j : Nat)), .own (.lst (I (rN rows st n (j + 1)))), y5, y6, y7, .emp]) := by
        rcases hc2 with rfl | rfl
        · rw [show rN rows st n (j + 1) = addRows (List.replicate n 0) ((rN rows st n j).zip rows) from rfl, ← h3]
          simp only [evS, evI, evE, List.getElem?_cons_zero, List.getElem?_cons_succ, bindX, List.set_cons_succ, List.set_cons_zero]
        · exact h3
      refine ⟨[.fz (mo cs st rows ws), .fz (.int (t : Nat)), c2, .fz (.int (j : Nat)), x4, x5, x6, x7, .emp], [.fz (mo cs st rows ws), .fz (.int (t : Nat)), .fz (.lst (I (rN rows st n (j + 1)))), .fz (.int (j : Nat)), .fz (.lst (I (rN rows st n (j + 1)))), y5, y6, y7, .emp], rfl, ?_, _, _, _, _, _, _, .inr rfl, rfl⟩
      show evSs T (run T m) (.cons (.setO 4 (.op .rep (.e (.fr (.lst (.e (.cst (.int 0)) .nil))) (.e (.olen (.var 0)) .nil)))) (.cons (.for_ (.zip (.var 2) (.op (.fld "steps") (.s 0 .nil))) (.tup [5, 6]) bb) (.cons (.set 2 (.var 4)) .nil))) _ = _
      refine evSs_cons (env' := [.fz (mo cs st rows ws), .fz (.int (t : Nat)), c2, .fz (.int (j : Nat)), .own (.lst (I (List.replicate n 0))), x5, x6, x7, .emp]) ((stO 4 _).trans rfl) (evSs_cons h3' ?_)
      simp [evSs, evS, evE, evA, evO, evI, bindF, bindX, okO, nxO, setD, cellD, Cell.val, Cell.mine, Cell.put, mineAt, isLst, getAll, RA.get, allV, opT, opD, op1, op2, arith, ints2, boolF, boolX, mutD, callD, DV.argsOk, argsOk2, argOk, ioSl, putOuts, callD.okO', endC, retO', outs]
  rw [rng_len] at hc2
  have q1 := sumof_sp (v := "in") (r := rN rows st n t) (ws := ws) (by rw [hg.wl]; omega) m hm
  have q2 := sumof_sp (v := "hung") (r := rN rows st n t) (ws := ws) (by rw [hg.wl]; omega) m hm
  have q3 := sumof_sp (v := "out") (r := rN rows st n t) (ws := ws) (by rw [hg.wl]; omega) m hm
  rw [fwd hrE hg.rl hg.wl s0 s1] at q1 q2 q3
  show endC f_count_texts (evSs T (run T m) (.cons (.setO 2 (.op .rep (.e (.fr (.lst (.e (.cst (.int 0)) .nil))) (.e (.olen (.var 0)) .nil)))) (.cons (.put 2 (.op (.fld "start") (.s 0 .nil)) (.cst (.int 1))) (.cons (.for_ (.rng1 (.var 1)) (.name 3) ba) (.cons (.ret (.op .tuple (.e (.fr (.lc [8] (.seq (.glb 0)) (.name 8) (.call 17 (.e (.var 8) (.e (.var 2) (.e (.op (.fld "verdicts") (.s 0 .nil)) .nil)))))) .nil))) .nil)))) [.fz (mo cs st rows ws), .fz (.int (t : Nat)), .emp, .emp, .emp, .emp, .emp, .emp, .emp]) = _
  refine (congrArg (endC f_count_texts) (evSs_cons ((stO 2 _).trans rfl) (evSs_cons (hput _ _ _ _ _ _ _) (evSs_cons h2 (evSs_ret (d := c3 rows st ws t) (env' := [.fz (mo cs st rows ws), .fz (.int (t : Nat)), .fz (.lst (I (rN rows st n t))), x3, x4, x5, x6, x7, .emp]) ?_))))).trans ?_
  · have hcd : T.code 17 = some f__sum_of := rfl
    have hT : ∀ xs, opT T .tuple [.lst xs] = some (.tup xs) := fun _ => rfl
    have hgl : T.glo 0 = some (.wt [.str "in", .str "hung", .str "out"]) := rfl
    rcases hc2 with rfl | rfl
    · simp [evS, bindF, evE, evA, evO, evI, bindX, okO, hgl, itemsD, plainAt, plainCell, lcD, setTg, wipeC, onlyOk, cellD, Cell.val, getAll, RA.get, f4, callD, hcd, f__sum_of, DV.argsOk, argsOk2, argOk, ioSl, putOuts, callD.okO', q1, q2, q3, lcEnd, backC, hT, c3]
    · simp [evS, bindF, evE, evA, evO, evI, bindX, okO, hgl, itemsD, plainAt, plainCell, lcD, setTg, wipeC, onlyOk, cellD, Cell.val, getAll, RA.get, f4, callD, hcd, f__sum_of, DV.argsOk, argsOk2, argOk, ioSl, putOuts, callD.okO', q1, q2, q3, lcEnd, backC, hT, c3]
  · simp [evSs, evS, evE, evA, evO, evI, bindF, bindX, okO, nxO, setD, cellD, Cell.val, Cell.mine, Cell.put, mineAt, isLst, getAll, RA.get, allV, opT, opD, op1, op2, arith, ints2, boolF, boolX, mutD, callD, DV.argsOk, argsOk2, argOk, ioSl, putOuts, callD.okO', endC, retO', outs, f_count_texts]
end L69


set_option maxRecDepth 100000
set_option maxHeartbeats 4000000
/-! L69h: listed, ways, sums, two. -/
namespace L69
open PySem DV P69

theorem gv_unp {cs : List Nat} {st : Int} {rows : List (List Int)} {ws : List Str} {a b c d : Nat} {e : Ce} : setTg (.tup [a, b, c, d]) (.tup [.str (S cs), .int st, .lst (R rows), .lst (W ws)]) e = if (a < e.length ∧ b < e.length ∧ c < e.length ∧ d < e.length) then some ((((e.set a (.fz (.str (S cs)))).set b (.fz (.int st))).set c (.fz (.lst (R rows)))).set d (.fz (.lst (W ws)))) else none := by
  simp [setTg]
theorem idx_I {w : List Int} {x : Int} (h0 : 0 ≤ x) (h1 : x < w.length) : opD .idx [.lst (I w), .int x] = some (.int (at_ w x)) := by
  obtain ⟨q, e⟩ := at_lt h0 h1
  show L2.atI (I w) x = _
  unfold L2.atI L2.ixN
  rw [List.length_map, if_pos h0, if_pos h1, e]
  show (I w)[x.toNat]? = _
  rw [List.getElem?_map, List.getElem?_eq_getElem q]
  rfl
theorem idx_R {rows : List (List Int)} {x : Int} (h0 : 0 ≤ x) (h1 : x < rows.length) : opD .idx [.lst (R rows), .int x] = some (.lst (I (rowAt rows x))) := by
  have q : x.toNat < rows.length := by omega
  show L2.atI (R rows) x = _
  unfold L2.atI L2.ixN rowAt
  rw [List.length_map, if_pos h0, if_pos h1, List.getD_eq_getElem?_getD, List.getElem?_eq_getElem q]
  show (R rows)[x.toNat]? = _
  rw [List.getElem?_map, List.getElem?_eq_getElem q]
  rfl
def wordAt (ws : List Str) (x : Int) : Str := ws.getD x.toNat ""
theorem idx_W {ws : List Str} {x : Int} (h0 : 0 ≤ x) (h1 : x < ws.length) : opD .idx [.lst (W ws), .int x] = some (.str (wordAt ws x)) := by
  have q : x.toNat < ws.length := by omega
  show L2.atI (W ws) x = _
  unfold L2.atI L2.ixN wordAt W
  rw [List.length_map, if_pos h0, if_pos h1, List.getD_eq_getElem?_getD, List.getElem?_eq_getElem q]
  show (ws.map D.str)[x.toNat]? = _
  rw [List.getElem?_map, List.getElem?_eq_getElem q]
  rfl
/-! ### ways -/
def byw : SCs := bodyOf c__law_ways 2
def byr : SCs := bodyOf byw 1
theorem val_fz (d : D) : (Cell.fz d).val = some d := rfl
theorem val_own (d : D) : (Cell.own d).val = some d := rfl
def fI (w : List Int) : D → D
  | .int i => .int (at_ w i)
  | x => x
theorem map_fI (w row : List Int) : (I row).map (fI w) = I (row.map (at_ w)) := by
  induction row with
  | nil => rfl
  | cons x row ih =>
    show D.int (at_ w x) :: (I row).map (fI w) = _
    rw [ih]
    rfl
theorem byr_step {m : Nat} {c0 c1 c2 cw c4 c5 c6 c7 c8 x11 : Cell} {w lg row : List Int} (hw : cw.val = some (.lst (I w))) (h : Ent w.length row) (hl : row.length ≤ 100) (hg : lg.length ≤ 100) :
    evSs T (run T m) byr [c0, c1, c2, cw, c4, c5, c6, c7, c8, .own (.lst (I lg)), .fz (.lst (I row)), x11, .emp] = some (.nx [c0, c1, c2, cw, c4, c5, c6, c7, c8, .own (.lst (I (lg ++ [sumAt w row]))), .fz (.lst (I row)), x11, .emp]) := by
  have hc := evO_lc (T := T) (calls := run T m) (own := [12]) (it := .seq (.var 10)) (tg := .name 12) (elt := .op .idx (.s 3 (.s 12 .nil))) (env := [c0, c1, c2, cw, c4, c5, c6, c7, c8, .own (.lst (I lg)), .fz (.lst (I row)), x11, .emp]) (env1 := [c0, c1, c2, cw, c4, c5, c6, c7, c8, .own (.lst (I lg)), .fz (.lst (I row)), x11, .emp]) (items := I row)
    (fI w) (evI_seq (d := .lst (I row)) (by simp [evSs, evS, evE, evA, evO, evI, bindF, bindX, okO, nxO, setD, cellD, Cell.val, Cell.mine, Cell.put, mineAt, isLst, getAll, RA.get, allV, opT, opD, op1, op2, arith, ints2, boolF, boolX, mutD, callD, DV.argsOk, argsOk2, argOk, ioSl, putOuts, callD.okO', endC, retO', outs]) rfl) rfl (by rw [List.length_map]; omega) fun x hx => by
      obtain ⟨i, hi, rfl⟩ := List.mem_map.mp hx
      obtain ⟨i0, i1⟩ := h i hi
      have e := idx_I i0 i1
      refine ⟨[c0, c1, c2, cw, c4, c5, c6, c7, c8, .own (.lst (I lg)), .fz (.lst (I row)), x11, .fz (.int i)], [c0, c1, c2, cw, c4, c5, c6, c7, c8, .own (.lst (I lg)), .fz (.lst (I row)), x11, .fz (.int i)], rfl, ?_, rfl⟩
      simp only [evE, evA, bindX, cellD, List.getElem?_cons_zero, List.getElem?_cons_succ, val_fz, hw, getAll, RA.get, opT, e, okO, fI]
  rw [map_fI] at hc
  have hs : op1 .sum (.lst (I (row.map (at_ w)))) = some (.int (sumAt w row)) := by
    show (toInts (I (row.map (at_ w)))).map (fun ns => D.int ns.sum) = _
    rw [toInts_I]
    rfl
  have ha := mop_app (I lg) (.int (sumAt w row)) (by rw [List.length_map]; omega)
  have hI : I (lg ++ [sumAt w row]) = I lg ++ [.int (sumAt w row)] := by simp [I]
  rw [hI]
  show evSs T (run T m) (.cons (.expr (.mut .append 9 (.e (.op .sum (.e (.fr (.lc [12] (.seq (.var 10)) (.name 12) (.op .idx (.s 3 (.s 12 .nil))))) .nil)) .nil))) .nil) _ = _
  generalize OC.lc [12] (.seq (.var 10)) (.name 12) (.op .idx (.s 3 (.s 12 .nil))) = oc at hc ⊢
  generalize I (row.map (at_ w)) = zs at hc hs
  simp [evSs, evS, evE, evA, bindF, bindX, okO, hc, getAll, RA.get, opT, opD, hs, mineAt, isLst, cellD, Cell.val, Cell.mine, Cell.put, mutD, allV, ha]
theorem byw_step {m : Nat} {c0 c1 c2 cw c4 c5 c6 c8 x9 x10 x11 : Cell} {w : List Int} {rows : List (List Int)} (hw : cw.val = some (.lst (I w))) (hr : ∀ row ∈ rows, row.length ≤ 100 ∧ Ent w.length row) (hl : rows.length ≤ 90) :
    ∃ x9' x10', evSs T (run T m) byw [c0, c1, c2, cw, c4, c5, c6, .fz (.lst (R rows)), c8, x9, x10, x11, .emp] = some (.nx [c0, c1, c2, .fz (.lst (I (wstep rows w))), c4, c5, c6, .fz (.lst (R rows)), c8, x9', x10', x11, .emp]) := by
  obtain ⟨e', h2, x10', rfl⟩ := for_ok (T := T) (calls := run T m) (it := .seq (.var 7)) (tg := .name 10) (body := byr) (fun i e => ∃ x10, e = [c0, c1, c2, cw, c4, c5, c6, .fz (.lst (R rows)), c8, .own (.lst (I (wstep (rows.take i) w))), x10, x11, .emp])
    (env := [c0, c1, c2, cw, c4, c5, c6, .fz (.lst (R rows)), c8, .own (.lst (I [])), x10, x11, .emp]) (env1 := [c0, c1, c2, cw, c4, c5, c6, .fz (.lst (R rows)), c8, .own (.lst (I [])), x10, x11, .emp]) (evI_seq (d := .lst (R rows)) (ds := R rows) (by simp [evSs, evS, evE, evA, evO, evI, bindF, bindX, okO, nxO, setD, cellD, Cell.val, Cell.mine, Cell.put, mineAt, isLst, getAll, RA.get, allV, opT, opD, op1, op2, arith, ints2, boolF, boolX, mutD, callD, DV.argsOk, argsOk2, argOk, ioSl, putOuts, callD.okO', endC, retO', outs]) rfl) ⟨x10, rfl⟩ fun j d e hj ⟨x10, ee⟩ => by
      subst ee
      rw [List.getElem?_map] at hj
      cases q : rows[j]? with
      | none => rw [q] at hj; cases hj
      | some row =>
        rw [q] at hj
        cases hj
        obtain ⟨r1, r2⟩ := hr row (List.mem_of_getElem? q)
        have ht : wstep (rows.take (j + 1)) w = wstep (rows.take j) w ++ [sumAt w row] := by
          rw [List.take_add_one, q]
          simp [wstep]
        rw [ht]
        exact ⟨_, _, rfl, byr_step hw r2 r1 (by simp [wstep]; omega), .fz (.lst (I row)), rfl⟩
  rw [List.length_map, List.take_length] at h2
  refine ⟨.fz (.lst (I (wstep rows w))), x10', ?_⟩
  show evSs T (run T m) (.cons (.setO 9 (.lst .nil)) (.cons (.for_ (.seq (.var 7)) (.name 10) byr) (.cons (.set 3 (.var 9)) .nil))) _ = _
  refine evSs_cons (env' := [c0, c1, c2, cw, c4, c5, c6, .fz (.lst (R rows)), c8, .own (.lst (I [])), x10, x11, .emp]) (by simp [evSs, evS, evE, evA, evO, evI, bindF, bindX, okO, nxO, setD, cellD, Cell.val, Cell.mine, Cell.put, mineAt, isLst, getAll, RA.get, allV, opT, opD, op1, op2, arith, ints2, boolF, boolX, mutD, callD, DV.argsOk, argsOk2, argOk, ioSl, putOuts, callD.okO', endC, retO', outs]) (evSs_cons h2 ?_)
  simp [evSs, evS, evE, evA, evO, evI, bindF, bindX, okO, nxO, setD, cellD, Cell.val, Cell.mine, Cell.put, mineAt, isLst, getAll, RA.get, allV, opT, opD, op1, op2, arith, ints2, boolF, boolX, mutD, callD, DV.argsOk, argsOk2, argOk, ioSl, putOuts, callD.okO', endC, retO', outs]
def fW (v : Str) : D → D
  | .str u => .int (if u == v then 1 else 0)
  | x => x
theorem map_fW (v : Str) (ws : List Str) : (W ws).map (fW v) = I (w0 v ws) := by
  induction ws with
  | nil => rfl
  | cons x ws ih =>
    show D.int (if x == v then 1 else 0) :: (W ws).map (fW v) = _
    rw [ih]
    rfl
theorem ways_sp {cs : List Nat} {st : Int} {rows : List (List Int)} {ws : List Str} {n : Nat} (hg : GOK cs st rows ws n) (hn : n ≤ 60) (hc6 : cs.length ≤ 6) {v : Str} {t : Nat} (ht : t ≤ 1000) : ∀ m, 1 ≤ m → run T m 20 [gv cs st rows ws, .str v, .int (t : Nat)] = some (.ret (.int (at_ (wN rows v ws t) st)) []) := by
  refine up fun m hm => run_S (c := f__law_ways) rfl rfl (by decide) ?_
  have hl : (W ws).length ≤ 1000000 := by rw [W, List.length_map, hg.wl]; omega
  have hc := evO_lc (T := T) (calls := run T m) (own := [11]) (it := .seq (.var 8)) (tg := .name 11) (elt := .op .int (.e (.op .eq (.s 11 (.s 1 .nil))) .nil)) (env := [.fz (gv cs st rows ws), .fz (.str v), .fz (.int (t : Nat)), .emp, .emp, .fz (.str (S cs)), .fz (.int st), .fz (.lst (R rows)), .fz (.lst (W ws)), .emp, .emp, .emp, .emp]) (env1 := [.fz (gv cs st rows ws), .fz (.str v), .fz (.int (t : Nat)), .emp, .emp, .fz (.str (S cs)), .fz (.int st), .fz (.lst (R rows)), .fz (.lst (W ws)), .emp, .emp, .emp, .emp]) (items := W ws)
    (fW v) (evI_seq (d := .lst (W ws)) (by simp [evSs, evS, evE, evA, evO, evI, bindF, bindX, okO, nxO, setD, cellD, Cell.val, Cell.mine, Cell.put, mineAt, isLst, getAll, RA.get, allV, opT, opD, op1, op2, arith, ints2, boolF, boolX, mutD, callD, DV.argsOk, argsOk2, argOk, ioSl, putOuts, callD.okO', endC, retO', outs]) rfl) rfl hl fun x hx => by
      obtain ⟨u, _, rfl⟩ := List.mem_map.mp hx
      refine ⟨[.fz (gv cs st rows ws), .fz (.str v), .fz (.int (t : Nat)), .emp, .emp, .fz (.str (S cs)), .fz (.int st), .fz (.lst (R rows)), .fz (.lst (W ws)), .emp, .emp, .fz (.str u), .emp], [.fz (gv cs st rows ws), .fz (.str v), .fz (.int (t : Nat)), .emp, .emp, .fz (.str (S cs)), .fz (.int st), .fz (.lst (R rows)), .fz (.lst (W ws)), .emp, .emp, .fz (.str u), .emp], rfl, ?_, rfl⟩
      have e : op2 .eq (.str u) (.str v) = some (.bl (u == v)) := rfl
      simp only [evE, evA, bindX, cellD, List.getElem?_cons_zero, List.getElem?_cons_succ, val_fz, getAll, RA.get, opT, opD, e, okO, op1, fW]
  rw [map_fW] at hc
  have s0 := hg.st0
  have s1 := hg.st1
  obtain ⟨e', h2, cw, x4, x9, x10, hcw, rfl⟩ := for_ok (T := T) (calls := run T m) (it := .rng1 (.var 2)) (tg := .name 4) (body := byw) (fun i e => ∃ cw x4 x9 x10, cw.val = some (.lst (I (wN rows v ws i))) ∧ e = [.fz (gv cs st rows ws), .fz (.str v), .fz (.int (t : Nat)), cw, x4, .fz (.str (S cs)), .fz (.int st), .fz (.lst (R rows)), .fz (.lst (W ws)), x9, x10, .emp, .emp])
    (env := [.fz (gv cs st rows ws), .fz (.str v), .fz (.int (t : Nat)), .own (.lst (I (wN rows v ws 0))), .emp, .fz (.str (S cs)), .fz (.int st), .fz (.lst (R rows)), .fz (.lst (W ws)), .emp, .emp, .emp, .emp]) (evI_rng1 (n := t) (by simp [evSs, evS, evE, evA, evO, evI, bindF, bindX, okO, nxO, setD, cellD, Cell.val, Cell.mine, Cell.put, mineAt, isLst, getAll, RA.get, allV, opT, opD, op1, op2, arith, ints2, boolF, boolX, mutD, callD, DV.argsOk, argsOk2, argOk, ioSl, putOuts, callD.okO', endC, retO', outs]) (by omega)) ⟨_, .emp, .emp, .emp, val_own _, rfl⟩ fun j d e hj ⟨cw, x4, x9, x10, hcw, ee⟩ => by
      subst ee
      obtain ⟨hlt, rfl⟩ := rng_get hj
      have hwl := wN_len (v := v) hg.rl hg.wl j
      obtain ⟨y9, y10, h3⟩ := byw_step (m := m) (c0 := .fz (gv cs st rows ws)) (c1 := .fz (.str v)) (c2 := .fz (.int (t : Nat))) (cw := cw) (c4 := .fz (.int (j : Nat))) (c5 := .fz (.str (S cs))) (c6 := .fz (.int st)) (c8 := .fz (.lst (W ws))) (x9 := x9) (x10 := x10) (x11 := .emp) (w := wN rows v ws j) (rows := rows) hcw (fun row h => ⟨by have := (hg.rw row h).1; omega, by rw [hwl]; exact (hg.rw row h).2⟩) (by rw [hg.rl]; omega)
      exact ⟨_, _, rfl, h3, _, _, _, _, val_fz _, rfl⟩
  rw [rng_len] at hcw
  have hix := idx_I (w := wN rows v ws t) s0 (by rw [wN_len hg.rl hg.wl]; exact s1)
  show endC f__law_ways (evSs T (run T m) (.cons (.unp true [5, 6, 7, 8] (.var 0)) (.cons (.setO 3 (.lc [11] (.seq (.var 8)) (.name 11) (.op .int (.e (.op .eq (.s 11 (.s 1 .nil))) .nil)))) (.cons (.for_ (.rng1 (.var 2)) (.name 4) byw) (.cons (.ret (.op .idx (.s 3 (.s 6 .nil)))) .nil)))) [.fz (gv cs st rows ws), .fz (.str v), .fz (.int (t : Nat)), .emp, .emp, .emp, .emp, .emp, .emp, .emp, .emp, .emp, .emp]) = _
  generalize OC.lc [11] (.seq (.var 8)) (.name 11) (.op .int (.e (.op .eq (.s 11 (.s 1 .nil))) .nil)) = oc at hc ⊢
  refine (congrArg (endC f__law_ways) (evSs_cons (env' := [.fz (gv cs st rows ws), .fz (.str v), .fz (.int (t : Nat)), .emp, .emp, .fz (.str (S cs)), .fz (.int st), .fz (.lst (R rows)), .fz (.lst (W ws)), .emp, .emp, .emp, .emp]) (by simp [evSs, evS, evE, evA, evO, evI, bindF, bindX, okO, nxO, setD, cellD, Cell.val, Cell.mine, Cell.put, mineAt, isLst, getAll, RA.get, allV, opT, opD, op1, op2, arith, ints2, boolF, boolX, mutD, callD, DV.argsOk, argsOk2, argOk, ioSl, putOuts, callD.okO', endC, retO', outs, gv, setTg]) (evSs_cons (env' := [.fz (gv cs st rows ws), .fz (.str v), .fz (.int (t : Nat)), .own (.lst (I (wN rows v ws 0))), .emp, .fz (.str (S cs)), .fz (.int st), .fz (.lst (R rows)), .fz (.lst (W ws)), .emp, .emp, .emp, .emp]) (by simp [evS, bindF, hc, nxO, setD, wN])
    (evSs_cons h2 (evSs_ret (d := .int (at_ (wN rows v ws t) st)) (env' := [.fz (gv cs st rows ws), .fz (.str v), .fz (.int (t : Nat)), cw, x4, .fz (.str (S cs)), .fz (.int st), .fz (.lst (R rows)), .fz (.lst (W ws)), x9, x10, .emp, .emp]) (by
      simp only [evS, bindF, evE, evA, bindX, cellD, List.getElem?_cons_zero, List.getElem?_cons_succ, val_fz, hcw, getAll, RA.get, opT, hix, okO])))))).trans ?_
  simp [evSs, evS, evE, evA, evO, evI, bindF, bindX, okO, nxO, setD, cellD, Cell.val, Cell.mine, Cell.put, mineAt, isLst, getAll, RA.get, allV, opT, opD, op1, op2, arith, ints2, boolF, boolX, mutD, callD, DV.argsOk, argsOk2, argOk, ioSl, putOuts, callD.okO', endC, retO', outs, f__law_ways]
theorem sums_sp {cs : List Nat} {st : Int} {rows : List (List Int)} {ws : List Str} {n : Nat} (hg : GOK cs st rows ws n) (hn : n ≤ 60) (hc6 : cs.length ≤ 6) {t : Nat} (ht : t ≤ 1000) : ∀ m, 2 ≤ m → run T m 21 [gv cs st rows ws, .int (t : Nat)] = some (.ret (c3 rows st ws t) []) := by
  refine up fun m hm => run_S (c := f__law_sums) rfl rfl (by decide) ?_
  have q1 := ways_sp hg hn hc6 (v := "in") ht m hm
  have q2 := ways_sp hg hn hc6 (v := "hung") ht m hm
  have q3 := ways_sp hg hn hc6 (v := "out") ht m hm
  have hcd : T.code 20 = some f__law_ways := rfl
  have hT : ∀ xs, opT T .tuple [.lst xs] = some (.tup xs) := fun _ => rfl
  show endC f__law_sums (evSs T (run T m) c__law_sums [.fz (gv cs st rows ws), .fz (.int (t : Nat)), .emp]) = _
  simp [c__law_sums, evSs, evS, bindF, evE, evA, evO, evI, bindX, okO, itemsD, plainAt, plainCell, lcD, setTg, wipeC, onlyOk, cellD, Cell.val, getAll, RA.get, allV, callD, hcd, f__law_ways, DV.argsOk, argsOk2, argOk, ioSl, putOuts, callD.okO', q1, q2, q3, lcEnd, backC, hT, c3, endC, retO', outs, f__law_sums]
/-! ### listed -/
def bl1 : SCs := bodyOf c__law_listed 2
def bl2 : SCs := bodyOf bl1 1
theorem bl2_step {m : Nat} {c0 c1 c2 c3 c4 c5 c6 c8 : Cell} {rows : List (List Int)} {re : List Int} {p : Int} (h0 : 0 ≤ p) (h1 : p < rows.length) (hl : re.length + (rowAt rows p).length ≤ 1000000) :
    evSs T (run T m) bl2 [c0, c1, c2, c3, c4, c5, c6, .fz (.lst (R rows)), c8, .own (.lst (I re)), .fz (.int p)] = some (.nx [c0, c1, c2, c3, c4, c5, c6, .fz (.lst (R rows)), c8, .own (.lst (I (re ++ rowAt rows p))), .fz (.int p)]) := by
  have e := idx_R h0 h1
  have he : mop .extend (.lst (I re)) [.lst (I (rowAt rows p))] = some (.non, .lst (I (re ++ rowAt rows p))) := by
    show (if (I re).length + (I (rowAt rows p)).length ≤ 1000000 then some (D.non, D.lst (I re ++ I (rowAt rows p))) else none) = _
    rw [List.length_map, List.length_map, if_pos hl]
    simp [I]
  have e' : opT T .idx [.lst (R rows), .int p] = some (.lst (I (rowAt rows p))) := e
  generalize I (rowAt rows p) = zs at e' he
  generalize I (re ++ rowAt rows p) = ys at he ⊢
  show evSs T (run T m) (.cons (.expr (.mut .extend 9 (.e (.op .idx (.s 7 (.s 10 .nil))) .nil))) .nil) _ = _
  simp [evSs, evS, evE, evA, bindF, bindX, okO, getAll, RA.get, e', mineAt, isLst, cellD, Cell.val, Cell.mine, Cell.put, mutD, allV, he]
theorem bl1_step {m : Nat} {c0 c1 c3 c4 c5 c6 c8 x9 x10 : Cell} {rows : List (List Int)} {l : List Int} {n c : Nat} (hr : ∀ row ∈ rows, row.length = c ∧ Ent n row) (hn : rows.length = n) (hE : Ent n l) (hl : l.length * c ≤ 1000000) (hx : plainCell x10 = true) :
    ∃ x9' x10', plainCell x10' = true ∧ evSs T (run T m) bl1 [c0, c1, .fz (.lst (I l)), c3, c4, c5, c6, .fz (.lst (R rows)), c8, x9, x10] = some (.nx [c0, c1, .fz (.lst (I (l.flatMap (rowAt rows)))), c3, c4, c5, c6, .fz (.lst (R rows)), c8, x9', x10']) := by
  have rl : ∀ p, 0 ≤ p → p < (n : Int) → (rowAt rows p).length = c := fun p h0 h1 => by
    have hp : p.toNat < rows.length := by omega
    unfold rowAt
    rw [List.getD_eq_getElem?_getD, List.getElem?_eq_getElem hp]
    exact (hr _ (List.getElem_mem hp)).1
  have fl : ∀ k : List Int, Ent n k → (k.flatMap (rowAt rows)).length = k.length * c := fun k => by
    induction k with
    | nil => intro _; simp
    | cons p k ih =>
      intro h
      obtain ⟨p0, p1⟩ := h p List.mem_cons_self
      rw [List.flatMap_cons, List.length_append, rl p p0 p1, ih fun x hx => h x (List.mem_cons_of_mem _ hx), List.length_cons, Nat.succ_mul]
      omega
  obtain ⟨e', h2, x10', hx', rfl⟩ := for_ok (T := T) (calls := run T m) (it := .seq (.var 2)) (tg := .name 10) (body := bl2) (fun i e => ∃ x10, plainCell x10 = true ∧ e = [c0, c1, .fz (.lst (I l)), c3, c4, c5, c6, .fz (.lst (R rows)), c8, .own (.lst (I ((l.take i).flatMap (rowAt rows)))), x10])
    (env := [c0, c1, .fz (.lst (I l)), c3, c4, c5, c6, .fz (.lst (R rows)), c8, .own (.lst (I [])), x10]) (env1 := [c0, c1, .fz (.lst (I l)), c3, c4, c5, c6, .fz (.lst (R rows)), c8, .own (.lst (I [])), x10]) (evI_seq (d := .lst (I l)) (ds := I l) (by simp [evSs, evS, evE, evA, evO, evI, bindF, bindX, okO, nxO, setD, cellD, Cell.val, Cell.mine, Cell.put, mineAt, isLst, getAll, RA.get, allV, opT, opD, op1, op2, arith, ints2, boolF, boolX, mutD, callD, DV.argsOk, argsOk2, argOk, ioSl, putOuts, callD.okO', endC, retO', outs]) rfl) ⟨x10, hx, rfl⟩ fun j d e hj ⟨x10, _, ee⟩ => by
      subst ee
      rw [List.getElem?_map] at hj
      cases q : l[j]? with
      | none => rw [q] at hj; cases hj
      | some p =>
        rw [q] at hj
        cases hj
        obtain ⟨p0, p1⟩ := hE p (List.mem_of_getElem? q)
        have ht : (l.take (j + 1)).flatMap (rowAt rows) = (l.take j).flatMap (rowAt rows) ++ rowAt rows p := by
          rw [List.take_add_one, q, List.flatMap_append]
          simp
        rw [ht]
        refine ⟨_, _, rfl, bl2_step p0 (by omega) ?_, .fz (.int p), rfl, rfl⟩
        have hjl : j < l.length := (List.getElem?_eq_some_iff.mp q).1
        rw [fl _ fun x hx => hE x (List.mem_of_mem_take hx), rl p p0 p1, List.length_take, Nat.min_eq_left (by omega)]
        have : (j + 1) * c ≤ l.length * c := Nat.mul_le_mul_right c hjl
        rw [Nat.succ_mul] at this
        omega
  rw [List.length_map, List.take_length] at h2
  refine ⟨.own (.lst (I (l.flatMap (rowAt rows)))), x10', hx', ?_⟩
  show evSs T (run T m) (.cons (.setO 9 (.lst .nil)) (.cons (.for_ (.seq (.var 2)) (.name 10) bl2) (.cons (.set 2 (.fr (.op .list (.s 9 .nil)))) .nil))) _ = _
  refine evSs_cons (env' := [c0, c1, .fz (.lst (I l)), c3, c4, c5, c6, .fz (.lst (R rows)), c8, .own (.lst (I [])), x10]) (by simp [evSs, evS, evE, evA, evO, evI, bindF, bindX, okO, nxO, setD, cellD, Cell.val, Cell.mine, Cell.put, mineAt, isLst, getAll, RA.get, allV, opT, opD, op1, op2, arith, ints2, boolF, boolX, mutD, callD, DV.argsOk, argsOk2, argOk, ioSl, putOuts, callD.okO', endC, retO', outs]) (evSs_cons h2 ?_)
  generalize I (l.flatMap (rowAt rows)) = zs
  simp [evSs, evS, evE, evA, evO, evI, bindF, bindX, okO, nxO, setD, cellD, Cell.val, Cell.mine, Cell.put, mineAt, isLst, getAll, RA.get, allV, opT, opD, op1, op2, arith, ints2, boolF, boolX, mutD, callD, DV.argsOk, argsOk2, argOk, ioSl, putOuts, callD.okO', endC, retO', outs, fop]
theorem sum_cnt (v : Str) (ws : List Str) : ∀ l : List Int, Ent ws.length l → ((l.countP fun p => wordAt ws p == v : Nat) : Int) = sumAt (w0 v ws) l
  | [], _ => rfl
  | p :: l, h => by
    obtain ⟨p0, p1⟩ := h p List.mem_cons_self
    have ih := sum_cnt v ws l fun x hx => h x (List.mem_cons_of_mem _ hx)
    have q : p.toNat < ws.length := by omega
    have e : at_ (w0 v ws) p = if wordAt ws p == v then 1 else 0 := by
      unfold at_ w0 wordAt
      rw [List.getD_eq_getElem?_getD, List.getD_eq_getElem?_getD, List.getElem?_map, List.getElem?_eq_getElem q]
      rfl
    show _ = at_ (w0 v ws) p + sumAt (w0 v ws) l
    rw [e, ← ih, List.countP_cons]
    split <;> rename_i hh <;> simp [hh] <;> omega
theorem toVs_W : ∀ us : List Str, toVs (W us) = some (us.map L2.V.str)
  | [] => rfl
  | u :: us => by
    show (match toV (.str u), toVs (W us) with
      | some v, some vs => some (v :: vs)
      | _, _ => none) = _
    rw [toVs_W us]
    rfl
end L69


set_option maxRecDepth 100000
set_option maxHeartbeats 4000000
/-! L69i: listed, two. -/
namespace L69
open PySem DV P69

theorem cnt_W (us : List Str) (v : Str) : op2 .cnt (.lst (W us)) (.str v) = some (.int ((us.countP fun u => u == v : Nat) : Int)) := by
  show (match toVs (W us), toV (.str v) with
    | some vs, some v => some (D.int ((vs.countP fun y => L2.eqV y v : Nat) : Int))
    | _, _ => none) = _
  rw [toVs_W, show toV (.str v) = some (.str v) from rfl]
  dsimp only
  rw [List.countP_map]
  congr 3
def fWd (ws : List Str) : D → D
  | .int i => .str (wordAt ws i)
  | x => x
theorem map_fWd (ws : List Str) (l : List Int) : (I l).map (fWd ws) = W (l.map (wordAt ws)) := by
  induction l with
  | nil => rfl
  | cons x l ih =>
    show D.str (wordAt ws x) :: (I l).map (fWd ws) = _
    rw [ih]
    rfl
theorem pow_bd {c t : Nat} (hc : c ≤ 6) (ht : t ≤ 6) : c ^ t ≤ 46656 := by
  have h1 : c ^ t ≤ 6 ^ t := Nat.pow_le_pow_left hc t
  have h2 : 6 ^ t ≤ 6 ^ 6 := Nat.pow_le_pow_right (by decide) ht
  have h3 : (6 : Nat) ^ 6 = 46656 := by decide
  omega
theorem listed_sp {cs : List Nat} {st : Int} {rows : List (List Int)} {ws : List Str} {n : Nat} (hg : GOK cs st rows ws n) (hn : n ≤ 60) (hc6 : cs.length ≤ 6) {t : Nat} (ht : t ≤ 5) : ∀ m, 1 ≤ m → run T m 19 [gv cs st rows ws, .int (t : Nat)] = some (.ret (c3 rows st ws t) []) := by
  refine up fun m hm => run_S (c := f__law_listed) rfl rfl (by decide) ?_
  have s0 := hg.st0
  have s1 := hg.st1
  have hrE : ∀ row ∈ rows, Ent n row := fun row h => (hg.rw row h).2
  obtain ⟨e', h2, x3, x9, x10, hp, rfl⟩ := for_ok (T := T) (calls := run T m) (it := .rng1 (.var 1)) (tg := .name 3) (body := bl1) (fun i e => ∃ x3 x9 x10, plainCell x10 = true ∧ e = [.fz (gv cs st rows ws), .fz (.int (t : Nat)), .fz (.lst (I (lN rows st i))), x3, .emp, .fz (.str (S cs)), .fz (.int st), .fz (.lst (R rows)), .fz (.lst (W ws)), x9, x10])
    (env := [.fz (gv cs st rows ws), .fz (.int (t : Nat)), .fz (.lst (I (lN rows st 0))), .emp, .emp, .fz (.str (S cs)), .fz (.int st), .fz (.lst (R rows)), .fz (.lst (W ws)), .emp, .emp]) (evI_rng1 (n := t) (by simp [evSs, evS, evE, evA, evO, evI, bindF, bindX, okO, nxO, setD, cellD, Cell.val, Cell.mine, Cell.put, mineAt, isLst, getAll, RA.get, allV, opT, opD, op1, op2, arith, ints2, boolF, boolX, mutD, callD, DV.argsOk, argsOk2, argOk, ioSl, putOuts, callD.okO', endC, retO', outs]) (by omega)) ⟨.emp, .emp, .emp, rfl, rfl⟩ fun j d e hj ⟨x3, x9, x10, hx, ee⟩ => by
      subst ee
      obtain ⟨hlt, rfl⟩ := rng_get hj
      have hll := lN_len hg.rw hg.rl s0 s1 j
      have hb := pow_bd (t := j + 1) hc6 (by omega)
      rw [Nat.pow_succ] at hb
      obtain ⟨y9, y10, hy, h3⟩ := bl1_step (m := m) (c0 := .fz (gv cs st rows ws)) (c1 := .fz (.int (t : Nat))) (c3 := .fz (.int (j : Nat))) (c4 := .emp) (c5 := .fz (.str (S cs))) (c6 := .fz (.int st)) (c8 := .fz (.lst (W ws))) (x9 := x9) (x10 := x10) (l := lN rows st j) hg.rw hg.rl (lN_ent hrE hg.rl s0 s1 j) (by rw [hll]; omega) hx
      exact ⟨_, _, rfl, h3, _, _, _, hy, rfl⟩
  rw [rng_len] at h2
  have hE := lN_ent hrE hg.rl s0 s1 t
  have hll := lN_len hg.rw hg.rl s0 s1 t
  have hb := pow_bd (t := t) hc6 (by omega)
  have q : ∀ v, (((lN rows st t).map (wordAt ws)).countP (fun u => u == v) : Nat) = at_ (wN rows v ws t) st := fun v => by
    rw [List.countP_map, ← lstd hrE hg.rl s0 s1 t]
    exact sum_cnt v ws _ (by rw [hg.wl]; exact hE)
  have hc := evO_lc (T := T) (calls := run T m) (own := [10]) (it := .seq (.var 2)) (tg := .name 10) (elt := .op .idx (.s 8 (.s 10 .nil))) (env := [.fz (gv cs st rows ws), .fz (.int (t : Nat)), .fz (.lst (I (lN rows st t))), x3, .emp, .fz (.str (S cs)), .fz (.int st), .fz (.lst (R rows)), .fz (.lst (W ws)), x9, x10]) (env1 := [.fz (gv cs st rows ws), .fz (.int (t : Nat)), .fz (.lst (I (lN rows st t))), x3, .emp, .fz (.str (S cs)), .fz (.int st), .fz (.lst (R rows)), .fz (.lst (W ws)), x9, x10]) (items := I (lN rows st t))
    (fWd ws) (evI_seq (d := .lst (I (lN rows st t))) (by simp [evSs, evS, evE, evA, evO, evI, bindF, bindX, okO, nxO, setD, cellD, Cell.val, Cell.mine, Cell.put, mineAt, isLst, getAll, RA.get, allV, opT, opD, op1, op2, arith, ints2, boolF, boolX, mutD, callD, DV.argsOk, argsOk2, argOk, ioSl, putOuts, callD.okO', endC, retO', outs]) rfl) (by simp [plainAt, hp]) (by rw [List.length_map, hll]; omega) fun x hx => by
      obtain ⟨p, hp', rfl⟩ := List.mem_map.mp hx
      obtain ⟨p0, p1⟩ := hE p hp'
      have e := idx_W (ws := ws) p0 (by rw [hg.wl]; exact p1)
      refine ⟨[.fz (gv cs st rows ws), .fz (.int (t : Nat)), .fz (.lst (I (lN rows st t))), x3, .emp, .fz (.str (S cs)), .fz (.int st), .fz (.lst (R rows)), .fz (.lst (W ws)), x9, .fz (.int p)], [.fz (gv cs st rows ws), .fz (.int (t : Nat)), .fz (.lst (I (lN rows st t))), x3, .emp, .fz (.str (S cs)), .fz (.int st), .fz (.lst (R rows)), .fz (.lst (W ws)), x9, .fz (.int p)], rfl, ?_, rfl⟩
      simp only [evE, evA, bindX, cellD, List.getElem?_cons_zero, List.getElem?_cons_succ, val_fz, getAll, RA.get, opT, e, okO, fWd]
  rw [map_fWd] at hc
  have k1 := cnt_W ((lN rows st t).map (wordAt ws)) "in"
  have k2 := cnt_W ((lN rows st t).map (wordAt ws)) "hung"
  have k3 := cnt_W ((lN rows st t).map (wordAt ws)) "out"
  rw [q] at k1 k2 k3
  show endC f__law_listed (evSs T (run T m) (.cons (.unp true [5, 6, 7, 8] (.var 0)) (.cons (.set 2 (.fr (.lst (.e (.var 6) .nil)))) (.cons (.for_ (.rng1 (.var 1)) (.name 3) bl1) (.cons (.setO 4 (.lc [10] (.seq (.var 2)) (.name 10) (.op .idx (.s 8 (.s 10 .nil))))) (.cons (.ret (.tup (.e (.op .cnt (.s 4 (.e (.cst (.str "in")) .nil))) (.e (.op .cnt (.s 4 (.e (.cst (.str "hung")) .nil))) (.e (.op .cnt (.s 4 (.e (.cst (.str "out")) .nil))) .nil))))) .nil))))) [.fz (gv cs st rows ws), .fz (.int (t : Nat)), .emp, .emp, .emp, .emp, .emp, .emp, .emp, .emp, .emp]) = _
  generalize OC.lc [10] (.seq (.var 2)) (.name 10) (.op .idx (.s 8 (.s 10 .nil))) = oc at hc ⊢
  generalize W ((lN rows st t).map (wordAt ws)) = zs at hc k1 k2 k3
  refine (congrArg (endC f__law_listed) (evSs_cons (env' := [.fz (gv cs st rows ws), .fz (.int (t : Nat)), .emp, .emp, .emp, .fz (.str (S cs)), .fz (.int st), .fz (.lst (R rows)), .fz (.lst (W ws)), .emp, .emp]) (by simp [evSs, evS, evE, evA, evO, evI, bindF, bindX, okO, nxO, setD, cellD, Cell.val, Cell.mine, Cell.put, mineAt, isLst, getAll, RA.get, allV, opT, opD, op1, op2, arith, ints2, boolF, boolX, mutD, callD, DV.argsOk, argsOk2, argOk, ioSl, putOuts, callD.okO', endC, retO', outs, gv, setTg]) (evSs_cons (env' := [.fz (gv cs st rows ws), .fz (.int (t : Nat)), .fz (.lst (I (lN rows st 0))), .emp, .emp, .fz (.str (S cs)), .fz (.int st), .fz (.lst (R rows)), .fz (.lst (W ws)), .emp, .emp]) (by simp [evSs, evS, evE, evA, evO, evI, bindF, bindX, okO, nxO, setD, cellD, Cell.val, Cell.mine, Cell.put, mineAt, isLst, getAll, RA.get, allV, opT, opD, op1, op2, arith, ints2, boolF, boolX, mutD, callD, DV.argsOk, argsOk2, argOk, ioSl, putOuts, callD.okO', endC, retO', outs, lN]) (evSs_cons h2
    (evSs_cons (env' := [.fz (gv cs st rows ws), .fz (.int (t : Nat)), .fz (.lst (I (lN rows st t))), x3, .own (.lst zs), .fz (.str (S cs)), .fz (.int st), .fz (.lst (R rows)), .fz (.lst (W ws)), x9, x10]) (by simp [evS, bindF, hc, nxO, setD])
    (evSs_ret (d := c3 rows st ws t) (env' := [.fz (gv cs st rows ws), .fz (.int (t : Nat)), .fz (.lst (I (lN rows st t))), x3, .own (.lst zs), .fz (.str (S cs)), .fz (.int st), .fz (.lst (R rows)), .fz (.lst (W ws)), x9, x10]) (by
      simp [evS, bindF, evE, evA, bindX, cellD, Cell.val, getAll, RA.get, opT, opD, k1, k2, k3, okO, allV, c3]))))))).trans ?_
  simp [evSs, evS, evE, evA, evO, evI, bindF, bindX, okO, nxO, setD, cellD, Cell.val, Cell.mine, Cell.put, mineAt, isLst, getAll, RA.get, allV, opT, opD, op1, op2, arith, ints2, boolF, boolX, mutD, callD, DV.argsOk, argsOk2, argOk, ioSl, putOuts, callD.okO', endC, retO', outs, f__law_listed]
theorem draw_ix {m : Nat} (hm : 1 ≤ m) {p : List Int} (hp : p.length ≤ 1000) {k : Int} (h0 : 0 < k) (h1 : k ≤ 1000) : ∃ r p', 0 ≤ r ∧ r < k ∧ p'.length ≤ p.length ∧ run T m 1 [.lst (I p), .int k] = some (.ret (.int r) [.lst (I p')]) :=
  ⟨_, _, (draw_lt h0).1, (draw_lt h0).2, draw_len, draw_sp h0 (by omega) hp m hm⟩
/-- choosing one of some numbers -/
theorem pick_ix {xs : List Int} {r : Int} (h0 : 0 ≤ r) (h1 : r < xs.length) : ∃ y, y ∈ xs ∧ op2 .idx (.lst (I xs)) (.int r) = some (.int y) := by
  obtain ⟨q, e⟩ := at_lt h0 h1
  exact ⟨_, List.getElem_mem q, by rw [← e]; exact idx_I h0 h1⟩
structure TwoOK (b : Bool) (cs : List Nat) (n n2 : Nat) : Prop where
  c : COK cs
  c3 : b = false → cs.length ≤ 3
  n0 : 1 ≤ n
  n1 : n ≤ 60
  m0 : 1 ≤ n2
  m1 : n2 ≤ 6
theorem two_sp {p : List Int} (hp : p.length ≤ 1000) (b : Bool) : ∀ m, 3 ≤ m → ∃ cs n n2 st rows ws st2 rows2 ws2 p', TwoOK b cs n n2 ∧ GOK cs st rows ws n ∧ GOK cs st2 rows2 ws2 n2 ∧ run T m 4 [.lst (I p), .bl b] = some (.ret (.lst [gv cs st rows ws, gv cs st2 rows2 ws2]) [.lst (I p')]) := by
  refine up fun m hm => ?_
  have cd1 : T.code 1 = some f__law_draw := rfl
  have cd2 : T.code 2 = some f__law_pick_letters := rfl
  have cd3 : T.code 3 = some f__law_build := rfl
  obtain ⟨r1, p1, a0, a1, l1, e1⟩ := draw_ix (m := m) (by omega) hp (k := 3) (by decide) (by decide)
  obtain ⟨y1, hy1, i1⟩ := pick_ix (xs := [2, 3, 1]) a0 a1
  obtain ⟨r2, p2, b0, b1, l2, e2⟩ := draw_ix (m := m) (by omega) (p := p1) (by omega) (k := 6) (by decide) (by decide)
  obtain ⟨y2, hy2, i2⟩ := pick_ix (xs := [3, 4, 2, 5, 6, 1]) b0 b1
  have i1' : op2 .idx (.lst [.int 2, .int 3, .int 1]) (.int r1) = some (.int y1) := i1
  have i2' : op2 .idx (.lst [.int 3, .int 4, .int 2, .int 5, .int 6, .int 1]) (.int r2) = some (.int y2) := i2
  have t1 : ∀ (env : Ce), evS T (run T m) (.set 2 (.op .idx (.e (.fr (.lst (.e (.cst (.int 2)) (.e (.cst (.int 3)) (.e (.cst (.int 1)) .nil))))) (.e (.call 1 (.s 0 (.e (.cst (.int 3)) .nil))) .nil)))) [.io (.lst (I p)), .fz (.bl b), .emp, .emp, .emp, .emp] = some (.nx [.io (.lst (I p1)), .fz (.bl b), .fz (.int y1), .emp, .emp, .emp]) := fun _ => by
    simp [evS, bindF, evE, evA, evO, bindX, okO, nxO, setD, cellD, Cell.val, Cell.mine, Cell.put, mineAt, getAll, RA.get, allV, opT, opD, callD, cd1, f__law_draw, DV.argsOk, argsOk2, argOk, ioSl, putOuts, callD.okO', e1, i1']
  have t2 : evS T (run T m) (.set 3 (.op .idx (.e (.fr (.lst (.e (.cst (.int 3)) (.e (.cst (.int 4)) (.e (.cst (.int 2)) (.e (.cst (.int 5)) (.e (.cst (.int 6)) (.e (.cst (.int 1)) .nil)))))))) (.e (.call 1 (.s 0 (.e (.cst (.int 6)) .nil))) .nil)))) [.io (.lst (I p1)), .fz (.bl b), .fz (.int y1), .emp, .emp, .emp] = some (.nx [.io (.lst (I p2)), .fz (.bl b), .fz (.int y1), .fz (.int y2), .emp, .emp]) := by
    simp [evS, bindF, evE, evA, evO, bindX, okO, nxO, setD, cellD, Cell.val, Cell.mine, Cell.put, mineAt, getAll, RA.get, allV, opT, opD, callD, cd1, f__law_draw, DV.argsOk, argsOk2, argOk, ioSl, putOuts, callD.okO', e2, i2']
  have t3 : ∃ (many n : Nat) (p4 : List Int), p4.length ≤ p2.length ∧ 1 ≤ many ∧ many ≤ 6 ∧ (b = false → many ≤ 3) ∧ 1 ≤ n ∧ n ≤ 60 ∧ evS T (run T m) (.ite (.var 1) (.cons (.set 2 (.op .sub (.e (.cst (.int 6)) (.e (.call 1 (.s 0 (.e (.cst (.int 6)) .nil))) .nil)))) (.cons (.set 3 (.op .sub (.e (.cst (.int 60)) (.e (.call 1 (.s 0 (.e (.cst (.int 60)) .nil))) .nil)))) .nil)) .nil) [.io (.lst (I p2)), .fz (.bl b), .fz (.int y1), .fz (.int y2), .emp, .emp] = some (.nx [.io (.lst (I p4)), .fz (.bl b), .fz (.int (many : Nat)), .fz (.int (n : Nat)), .emp, .emp]) := by
    cases b with
    | false =>
      have h1 : y1 = 2 ∨ y1 = 3 ∨ y1 = 1 := by simpa using hy1
      have h2 : y2 = 3 ∨ y2 = 4 ∨ y2 = 2 ∨ y2 = 5 ∨ y2 = 6 ∨ y2 = 1 := by simpa using hy2
      refine ⟨y1.toNat, y2.toNat, p2, Nat.le_refl _, by omega, by omega, fun _ => by omega, by omega, by omega, ?_⟩
      rw [Int.toNat_of_nonneg (by omega), Int.toNat_of_nonneg (by omega)]
      simp [evSs, evS, bindF, evE, boolF]
    | true =>
      obtain ⟨r3, p3, a0, a1, l3, e3⟩ := draw_ix (m := m) (by omega) (p := p2) (by omega) (k := 6) (by decide) (by decide)
      obtain ⟨r4, p4, b0, b1, l4, e4⟩ := draw_ix (m := m) (by omega) (p := p3) (by omega) (k := 60) (by decide) (by decide)
      refine ⟨(6 - r3).toNat, (60 - r4).toNat, p4, by omega, by omega, by omega, fun h => (by cases h), by omega, by omega, ?_⟩
      rw [Int.toNat_of_nonneg (by omega), Int.toNat_of_nonneg (by omega)]
      simp [evSs, evS, bindF, evE, evA, evO, bindX, okO, nxO, setD, cellD, Cell.val, Cell.mine, Cell.put, mineAt, getAll, RA.get, allV, opT, opD, op2, arith, ints2, boolF, callD, cd1, f__law_draw, DV.argsOk, argsOk2, argOk, ioSl, putOuts, callD.okO', e3, e4]
  obtain ⟨many, n, p4, l4, hm1, hm6, hm3, hn1, hn60, t3⟩ := t3
  obtain ⟨cs, p5, c1, c2, c3', l5, e5⟩ := pick_sp (p := p4) (many := many) (by omega) (by omega) m (by omega)
  obtain ⟨st, rows, ws, p6, g1, l6, e6⟩ := build_sp (p := p5) (cs := cs) (n := n) (sh := 0) (by omega) (by omega) hn60 (by omega) m (by omega)
  obtain ⟨r7, p7, a0', a1', l7, e7⟩ := draw_ix (m := m) (by omega) (p := p6) (by omega) (k := 6) (by decide) (by decide)
  obtain ⟨y7, hy7, i7⟩ := pick_ix (xs := [4, 2, 5, 3, 1, 6]) a0' a1'
  have i7' : op2 .idx (.lst [.int 4, .int 2, .int 5, .int 3, .int 1, .int 6]) (.int r7) = some (.int y7) := i7
  have h7 : y7 = 4 ∨ y7 = 2 ∨ y7 = 5 ∨ y7 = 3 ∨ y7 = 1 ∨ y7 = 6 := by simpa using hy7
  have hy7' : ((y7.toNat : Nat) : Int) = y7 := Int.toNat_of_nonneg (by omega)
  obtain ⟨st2, rows2, ws2, p8, g2, l8, e8⟩ := build_sp (p := p7) (cs := cs) (n := y7.toNat) (sh := 1) (by omega) (by omega) (by omega) (by omega) m (by omega)
  rw [hy7'] at e8
  refine ⟨cs, n, y7.toNat, st, rows, ws, st2, rows2, ws2, p8, ⟨⟨by omega, by omega, c2, c3'⟩, fun h => by have := hm3 h; omega, hn1, hn60, by omega, by omega⟩, g1, g2, run_S (c := f__law_two) rfl rfl (by decide) ?_⟩
  have t4 : evS T (run T m) (.set 4 (.call 2 (.s 0 (.e (.var 2) .nil)))) [.io (.lst (I p4)), .fz (.bl b), .fz (.int (many : Nat)), .fz (.int (n : Nat)), .emp, .emp] = some (.nx [.io (.lst (I p5)), .fz (.bl b), .fz (.int (many : Nat)), .fz (.int (n : Nat)), .fz (.str (S cs)), .emp]) := by
    simp [evS, bindF, evE, evA, bindX, nxO, setD, cellD, Cell.val, Cell.mine, Cell.put, mineAt, getAll, RA.get, callD, cd2, f__law_pick_letters, DV.argsOk, argsOk2, argOk, ioSl, putOuts, callD.okO', e5]
  have t5 : evS T (run T m) (.set 5 (.call 3 (.s 0 (.e (.var 4) (.e (.var 3) (.e (.cst (.int 0)) .nil)))))) [.io (.lst (I p5)), .fz (.bl b), .fz (.int (many : Nat)), .fz (.int (n : Nat)), .fz (.str (S cs)), .emp] = some (.nx [.io (.lst (I p6)), .fz (.bl b), .fz (.int (many : Nat)), .fz (.int (n : Nat)), .fz (.str (S cs)), .fz (gv cs st rows ws)]) := by
    simp [evS, bindF, evE, evA, bindX, nxO, setD, cellD, Cell.val, Cell.mine, Cell.put, mineAt, getAll, RA.get, callD, cd3, f__law_build, DV.argsOk, argsOk2, argOk, ioSl, putOuts, callD.okO', e6]
  show endC f__law_two (evSs T (run T m) c__law_two [.io (.lst (I p)), .fz (.bl b), .emp, .emp, .emp, .emp]) = _
  refine (congrArg (endC f__law_two) (evSs_cons (t1 []) (evSs_cons t2 (evSs_cons t3 (evSs_cons t4 (evSs_cons t5 (evSs_ret (d := .lst [gv cs st rows ws, gv cs st2 rows2 ws2]) (env' := [.io (.lst (I p8)), .fz (.bl b), .fz (.int (many : Nat)), .fz (.int (n : Nat)), .fz (.str (S cs)), .fz (gv cs st rows ws)]) ?_))))))).trans ?_
  · simp [evS, bindF, evE, evA, evO, bindX, okO, cellD, Cell.val, Cell.mine, Cell.put, mineAt, getAll, RA.get, allV, opT, opD, callD, cd1, cd3, f__law_draw, f__law_build, DV.argsOk, argsOk2, argOk, ioSl, putOuts, callD.okO', e7, i7', e8]
  · simp [evSs, evS, evE, evA, evO, evI, bindF, bindX, okO, nxO, setD, cellD, Cell.val, Cell.mine, Cell.put, mineAt, isLst, getAll, RA.get, allV, opT, opD, op1, op2, arith, ints2, boolF, boolX, mutD, callD, DV.argsOk, argsOk2, argOk, ioSl, putOuts, callD.okO', endC, retO', outs, f__law_two]
end L69


set_option maxRecDepth 100000
set_option maxHeartbeats 4000000
/-! L69j: the law run. -/
namespace L69
open PySem DV P69

abbrev N (ls : List Nat) : List D := ls.map fun t => .int (t : Nat)
/-- the two machines -/
structure Two where
  cs : List Nat
  st : Int
  rows : List (List Int)
  ws : List Str
  n : Nat
  st2 : Int
  rows2 : List (List Int)
  ws2 : List Str
  n2 : Nat
structure TOK (z : Two) : Prop where
  c : COK z.cs
  g1 : GOK z.cs z.st z.rows z.ws z.n
  g2 : GOK z.cs z.st2 z.rows2 z.ws2 z.n2
  n1 : z.n ≤ 60
  n2 : z.n2 ≤ 60
def Two.m1 (z : Two) : D := mo z.cs z.st z.rows z.ws
def Two.m2 (z : Two) : D := mo z.cs z.st2 z.rows2 z.ws2
def Two.v1 (z : Two) : D := gv z.cs z.st z.rows z.ws
def Two.v2 (z : Two) : D := gv z.cs z.st2 z.rows2 z.ws2
def Two.e (z : Two) (t : Nat) : D := .tup [c3 z.rows z.st z.ws t, c3 z.rows2 z.st2 z.ws2 t]
theorem big : (6 : Nat) ^ 200 < 10 ^ 156 := by decide +kernel
theorem c3_py {rows : List (List Int)} {st : Int} {ws : List Str} {n c : Nat} (hr : ∀ row ∈ rows, row.length = c ∧ Ent n row) (h1 : rows.length = n) (h2 : ws.length = n) (s0 : 0 ≤ st) (s1 : st < n) (hc : c ≤ 6) {t : Nat} (ht : t ≤ 200) :
    ∃ ps, toPy (c3 rows st ws t) = some (.tuple ps) ∧ ils 156 ps = true ∧ PyData.depthAll ps = 0 ∧ PyData.weightAll ps ≤ 1875 := by
  have bd : ∀ v, (at_ (wN rows v ws t) st).natAbs < 10 ^ 156 := fun v => by
    obtain ⟨b0, b1⟩ := ways_bd (v := v) hr h1 h2 s0 s1 t
    have h3 : c ^ t ≤ 6 ^ t := Nat.pow_le_pow_left hc t
    have h4 : 6 ^ t ≤ 6 ^ 200 := Nat.pow_le_pow_right (by decide) ht
    have h5 := big
    generalize (10 : Nat) ^ 156 = B at h5 ⊢
    generalize (6 : Nat) ^ 200 = B2 at h4 h5
    generalize (6 : Nat) ^ t = B3 at h3 h4
    generalize c ^ t = B4 at h3 b1
    omega
  refine ⟨[.int (at_ (wN rows "in" ws t) st), .int (at_ (wN rows "hung" ws t) st), .int (at_ (wN rows "out" ws t) st)], rfl, ils_app fun x hx => ?_, rfl, ?_⟩
  · rcases List.mem_cons.mp hx with rfl | hx
    · exact decide_eq_true (bd _)
    · rcases List.mem_cons.mp hx with rfl | hx
      · exact decide_eq_true (bd _)
      · rw [List.mem_singleton.mp hx]
        exact decide_eq_true (bd _)
  · have w1 := wt_int (bd "in") (by decide)
    have w2 := wt_int (bd "hung") (by decide)
    have w3 := wt_int (bd "out") (by decide)
    show (PyData.int _).weight + 1 + ((PyData.int _).weight + 1 + ((PyData.int _).weight + 1 + 0)) ≤ 1875
    omega
theorem e_same {z : Two} (h : TOK z) {t : Nat} (ht : t ≤ 200) : ∀ m, 1 ≤ m → run T m 14 [z.e t, z.e t] = some (.ret (.bl true) []) := by
  obtain ⟨ps, p1, p2, p3, p4⟩ := c3_py h.g1.rw h.g1.rl h.g1.wl h.g1.st0 h.g1.st1 h.c.l6 ht
  obtain ⟨qs, q1, q2, q3, q4⟩ := c3_py h.g2.rw h.g2.rl h.g2.wl h.g2.st0 h.g2.st1 h.c.l6 ht
  have hd : toPy (z.e t) = some (.tuple [.tuple ps, .tuple qs]) := toPy_tup (toPys_cons p1 (toPys_cons q1 rfl))
  obtain ⟨n1, n2⟩ := nice hd (.inl ⟨_, rfl⟩) (b := 156) (w := 3752) (by
    show (ils 156 ps && (ils 156 qs && true)) = true
    rw [p2, q2]
    rfl) (by decide) (by decide) (by
    show max (PyData.depthAll ps + 1) (max (PyData.depthAll qs + 1) 0) + 1 ≤ 60
    omega) (by
    show PyData.weightAll ps + 1 + (PyData.weightAll qs + 1 + 0) ≤ 3752
    omega) (by decide)
  exact same_sp n1 n2
def lb : Nat → SCs := bodyOf c_law
abbrev En (z : Two) (g : Bool) (ls : List Nat) (c0 c1 far x7 x8 x11 x12 x13 : Cell) : Ce := [c0, c1, .fz (.bl g), .fz (.lst (N ls)), .fz z.m1, .fz z.m2, far, x7, x8, .fz z.v1, .fz z.v2, x11, x12, x13]
theorem far_step {m : Nat} (hm : 2 ≤ m) {z : Two} (h : TOK z) {g : Bool} {ls fs : List Nat} {t : Nat} (ht : t ≤ 1000) (hf : fs.length ≤ 100) {c0 c1 x8 x11 x12 x13 : Cell} :
    evSs T (run T m) (lb 9) (En z g ls c0 c1 (.own (.lst (fs.map z.e))) (.fz (.int (t : Nat))) x8 x11 x12 x13) = some (.nx (En z g ls c0 c1 (.own (.lst ((fs ++ [t]).map z.e))) (.fz (.int (t : Nat))) x8 x11 x12 x13)) := by
  have q1 := sums_sp h.g1 h.n1 h.c.l6 (t := t) ht m hm
  have q2 := sums_sp h.g2 h.n2 h.c.l6 (t := t) ht m hm
  have q1' : run T m 21 [z.v1, .int (t : Nat)] = some (.ret (c3 z.rows z.st z.ws t) []) := q1
  have q2' : run T m 21 [z.v2, .int (t : Nat)] = some (.ret (c3 z.rows2 z.st2 z.ws2 t) []) := q2
  have ha := mop_app (fs.map z.e) (z.e t) (by rw [List.length_map]; omega)
  have hI : (fs ++ [t]).map z.e = fs.map z.e ++ [.tup [c3 z.rows z.st z.ws t, c3 z.rows2 z.st2 z.ws2 t]] := by rw [List.map_append]; rfl
  have ha' : mop .append (.lst (fs.map z.e)) [.tup [c3 z.rows z.st z.ws t, c3 z.rows2 z.st2 z.ws2 t]] = some (.non, .lst (fs.map z.e ++ [.tup [c3 z.rows z.st z.ws t, c3 z.rows2 z.st2 z.ws2 t]])) := ha
  rw [hI]
  generalize fs.map z.e = fl at ha' ⊢
  simp [lb, bodyOf, c_law, evSs, evS, bindF, evE, evA, bindX, cellD, Cell.val, Cell.mine, Cell.put, mineAt, isLst, getAll, RA.get, allV, callD, show T.code 21 = some f__law_sums from rfl, f__law_sums, DV.argsOk, argsOk2, argOk, ioSl, putOuts, callD.okO', q1', q2', mutD, ha']
theorem idx_N {ls : List Nat} {j t : Nat} (h : ls[j]? = some t) : op2 .idx (.lst (N ls)) (.int (j : Nat)) = some (.int (t : Nat)) := by
  show L2.atI (N ls) (j : Int) = _
  have hj := (List.getElem?_eq_some_iff.mp h).1
  unfold L2.atI L2.ixN
  rw [List.length_map, if_pos (by omega), if_pos (by omega)]
  show (N ls)[((j : Int)).toNat]? = _
  rw [Int.toNat_natCast, List.getElem?_map, h]
  rfl
theorem idx_F {z : Two} {ls : List Nat} {j t : Nat} (h : ls[j]? = some t) : op2 .idx (.lst (ls.map z.e)) (.int (j : Nat)) = some (z.e t) := by
  show L2.atI (ls.map z.e) (j : Int) = _
  have hj := (List.getElem?_eq_some_iff.mp h).1
  unfold L2.atI L2.ixN
  rw [List.length_map, if_pos (by omega), if_pos (by omega)]
  show (ls.map z.e)[((j : Int)).toNat]? = _
  rw [Int.toNat_natCast, List.getElem?_map, h]
  rfl
theorem tell_step {m : Nat} (hm : 2 ≤ m) {z : Two} (h : TOK z) {g : Bool} {ls : List Nat} {j t : Nat} (hj : ls[j]? = some t) (ht : t ≤ 200) {c0 c1 x7 x11 x12 x13 : Cell} {k : Nat} (hk : k = 10 ∨ k = 12) :
    evSs T (run T m) (lb k) (En z g ls c0 c1 (.own (.lst (ls.map z.e))) x7 (.fz (.int (j : Nat))) x11 x12 x13) = some (.nx (En z g ls c0 c1 (.own (.lst (ls.map z.e))) x7 (.fz (.int (j : Nat))) (.fz (z.e t)) x12 x13)) := by
  have q1 : run T m 18 [z.m1, .int (t : Nat)] = some (.ret (c3 z.rows z.st z.ws t) []) := count_sp h.g1 h.n1 (t := t) (by omega) m hm
  have q2 : run T m 18 [z.m2, .int (t : Nat)] = some (.ret (c3 z.rows2 z.st2 z.ws2 t) []) := count_sp h.g2 h.n2 (t := t) (by omega) m hm
  have q3 : run T m 14 [.tup [c3 z.rows z.st z.ws t, c3 z.rows2 z.st2 z.ws2 t], z.e t] = some (.ret (.bl true) []) := e_same h ht m (by omega)
  have i1 := idx_N hj
  have i2 := idx_F (z := z) hj
  have ez : z.e t = .tup [c3 z.rows z.st z.ws t, c3 z.rows2 z.st2 z.ws2 t] := rfl
  rw [ez] at q3 i2 ⊢
  generalize c3 z.rows z.st z.ws t = d1 at q1 q3 i2 ⊢
  generalize c3 z.rows2 z.st2 z.ws2 t = d2 at q2 q3 i2 ⊢
  generalize ls.map z.e = fl at i2 ⊢
  rcases hk with rfl | rfl <;>
  simp [lb, bodyOf, c_law, evSs, evS, bindF, evE, evA, bindX, okO, nxO, setD, cellD, Cell.val, Cell.mine, Cell.put, mineAt, getAll, RA.get, allV, opT, opD, op1, boolF, callD, show T.code 18 = some f_count_texts from rfl, f_count_texts, show T.code 14 = some f__law_same from rfl, f__law_same, DV.argsOk, argsOk2, argOk, ioSl, putOuts, callD.okO', q1, q2, q3, i1, i2]
theorem near_step {m : Nat} (hm : 2 ≤ m) {z : Two} (h : TOK z) {g : Bool} {ls : List Nat} {t : Nat} (ht : t ≤ 5) {c0 c1 far x8 x11 x12 x13 : Cell} :
    evSs T (run T m) (lb 11) (En z g ls c0 c1 far (.fz (.int (t : Nat))) x8 x11 x12 x13) = some (.nx (En z g ls c0 c1 far (.fz (.int (t : Nat))) x8 (.fz (z.e t)) (.fz (z.e t)) x13)) := by
  have q1 : run T m 18 [z.m1, .int (t : Nat)] = some (.ret (c3 z.rows z.st z.ws t) []) := count_sp h.g1 h.n1 (t := t) (by omega) m hm
  have q2 : run T m 18 [z.m2, .int (t : Nat)] = some (.ret (c3 z.rows2 z.st2 z.ws2 t) []) := count_sp h.g2 h.n2 (t := t) (by omega) m hm
  have q3 : run T m 14 [.tup [c3 z.rows z.st z.ws t, c3 z.rows2 z.st2 z.ws2 t], .tup [c3 z.rows z.st z.ws t, c3 z.rows2 z.st2 z.ws2 t]] = some (.ret (.bl true) []) := e_same h (by omega) m (by omega)
  have q4 : run T m 19 [z.v1, .int (t : Nat)] = some (.ret (c3 z.rows z.st z.ws t) []) := listed_sp h.g1 h.n1 h.c.l6 ht m (by omega)
  have q5 : run T m 19 [z.v2, .int (t : Nat)] = some (.ret (c3 z.rows2 z.st2 z.ws2 t) []) := listed_sp h.g2 h.n2 h.c.l6 ht m (by omega)
  have ez : z.e t = .tup [c3 z.rows z.st z.ws t, c3 z.rows2 z.st2 z.ws2 t] := rfl
  rw [ez]
  generalize c3 z.rows z.st z.ws t = d1 at q1 q3 q4 ⊢
  generalize c3 z.rows2 z.st2 z.ws2 t = d2 at q2 q3 q5 ⊢
  simp [lb, bodyOf, c_law, evSs, evS, bindF, evE, evA, bindX, okO, nxO, setD, cellD, Cell.val, Cell.mine, Cell.put, mineAt, getAll, RA.get, allV, opT, opD, op1, boolF, callD, show T.code 18 = some f_count_texts from rfl, f_count_texts, show T.code 14 = some f__law_same from rfl, f__law_same, show T.code 19 = some f__law_listed from rfl, f__law_listed, DV.argsOk, argsOk2, argOk, ioSl, putOuts, callD.okO', q1, q2, q3, q4, q5]
end L69


set_option maxRecDepth 100000
set_option maxHeartbeats 4000000
/-! L69k: the law, run. -/
namespace L69
open PySem DV P69

theorem cut63 (ns : List Int) : cutL (ns.map D.int) none (some 63) = I (ns.take 63) := by
  unfold cutL
  rw [show (some (63 : Int)) = some ((63 : Nat) : Int) from rfl, HT.sIx_none, HT.sIx_nat, List.drop_zero, Nat.sub_zero, List.length_map, ← List.map_take]
  congr 1
  rw [← List.take_take, List.take_length]
def gm (v : Int) : Int := (if v < 0 then -v else v).fmod (10 ^ 60)
def fm : D → D
  | .int v => .int (gm v)
  | d => d
abbrev E0 (c0 c1 : Cell) : Ce := [c0, c1, .emp, .emp, .emp, .emp, .emp, .emp, .emp, .emp, .emp, .emp, .emp, .emp]
theorem start_s {m : Nat} {ns : List Int} : evS T (run T m) (.setO 0 (.lc [13] (.seq (.fr (.op (.sl false true) (.s 0 (.e (.cst (.int 63)) .nil))))) (.name 13) (.op .int (.s 13 .nil)))) (E0 (.fz (.scr ns)) .emp) = some (.nx (E0 (.own (.lst (I (ns.take 63)))) .emp)) := by
  have h1 : evI T (run T m) (.seq (.fr (.op (.sl false true) (.s 0 (.e (.cst (.int 63)) .nil))))) (E0 (.fz (.scr ns)) .emp) = some (.ok (I (ns.take 63)) (E0 (.fz (.scr ns)) .emp)) := by
    have hc : fop (.sl false true) [.scr ns, .int 63] = some (.lst (I (ns.take 63))) := by
      show some (D.lst (cutL (ns.map D.int) none (some 63))) = _
      rw [cut63]
    simp [evSs, evS, evE, evA, evO, evI, bindF, bindX, okO, nxO, setD, cellD, Cell.val, Cell.mine, Cell.put, mineAt, isLst, getAll, RA.get, allV, opT, opD, op1, op2, arith, ints2, boolF, boolX, mutD, callD, DV.argsOk, argsOk2, argOk, ioSl, putOuts, callD.okO', endC, retO', outs, itemsD, hc]
  have hc := evO_lc (T := T) (calls := run T m) (own := [13]) (tg := .name 13) (elt := .op .int (.s 13 .nil)) id h1 rfl (by rw [List.length_map, List.length_take]; omega) fun x hx => by
    obtain ⟨v, _, rfl⟩ := List.mem_map.mp hx
    refine ⟨[.fz (.scr ns), .emp, .emp, .emp, .emp, .emp, .emp, .emp, .emp, .emp, .emp, .emp, .emp, .fz (.int v)], [.fz (.scr ns), .emp, .emp, .emp, .emp, .emp, .emp, .emp, .emp, .emp, .emp, .emp, .emp, .fz (.int v)], rfl, ?_, rfl⟩
    simp [evSs, evS, evE, evA, evO, evI, bindF, bindX, okO, nxO, setD, cellD, Cell.val, Cell.mine, Cell.put, mineAt, isLst, getAll, RA.get, allV, opT, opD, op1, op2, arith, ints2, boolF, boolX, mutD, callD, DV.argsOk, argsOk2, argOk, ioSl, putOuts, callD.okO', endC, retO', outs]
  rw [List.map_id] at hc
  rw [evS, hc]
  rfl
theorem start_p {m : Nat} {ks : List Int} (hk : ks.length ≤ 63) : ∃ p : List Int, p.length ≤ 63 ∧ evS T (run T m) (.setO 1 (.op .rev (.e (.fr (.lc [13] (.seq (.var 0)) (.name 13) (.op .mod (.e (.op .abs (.s 13 .nil)) (.e (.op .pow (.e (.cst (.int 10)) (.e (.cst (.int 60)) .nil))) .nil))))) .nil))) (E0 (.own (.lst (I ks))) .emp) = some (.nx (E0 (.fz (.lst (I ks))) (.own (.lst (I p))))) := by
  refine ⟨(ks.map gm).reverse, by simpa using hk, ?_⟩
  have h1 : evI T (run T m) (.seq (.var 0)) (E0 (.own (.lst (I ks))) .emp) = some (.ok (I ks) (E0 (.fz (.lst (I ks))) .emp)) := by
    simp [evSs, evS, evE, evA, evO, evI, bindF, bindX, okO, nxO, setD, cellD, Cell.val, Cell.mine, Cell.put, mineAt, isLst, getAll, RA.get, allV, opT, opD, op1, op2, arith, ints2, boolF, boolX, mutD, callD, DV.argsOk, argsOk2, argOk, ioSl, putOuts, callD.okO', endC, retO', outs, itemsD]
  have hc := evO_lc (T := T) (calls := run T m) (own := [13]) (tg := .name 13) (elt := .op .mod (.e (.op .abs (.s 13 .nil)) (.e (.op .pow (.e (.cst (.int 10)) (.e (.cst (.int 60)) .nil))) .nil))) fm h1 rfl (by rw [List.length_map]; omega) fun x hx => by
    obtain ⟨v, _, rfl⟩ := List.mem_map.mp hx
    refine ⟨[.fz (.lst (I ks)), .emp, .emp, .emp, .emp, .emp, .emp, .emp, .emp, .emp, .emp, .emp, .emp, .fz (.int v)], [.fz (.lst (I ks)), .emp, .emp, .emp, .emp, .emp, .emp, .emp, .emp, .emp, .emp, .emp, .emp, .fz (.int v)], rfl, ?_, rfl⟩
    have e1 : op1 .abs (.int v) = some (.int (if v < 0 then -v else v)) := rfl
    have e2 : op2 .pow (.int 10) (.int 60) = some (.int (10 ^ 60)) := by
      show (if (0 : Int) ≤ 60 ∧ (60 : Int) ≤ 1000000 ∧ (10 : Int).natAbs < 18446744073709551616 then some (D.int (10 ^ (60 : Int).toNat)) else none) = _
      rw [if_pos ⟨by decide, by decide, by decide⟩]
      rfl
    have e3 : ∀ u w : Int, w ≠ 0 → op2 .mod (.int u) (.int w) = some (.int (u.fmod w)) := fun u w hw => if_pos hw
    have hz : (10 ^ 60 : Int) ≠ 0 := by decide
    have hf : fm (.int v) = .int ((if v < 0 then -v else v).fmod (10 ^ 60)) := rfl
    rw [hf]
    generalize (10 ^ 60 : Int) = W at e2 hz ⊢
    generalize (if v < 0 then -v else v) = u at e1 ⊢
    have e3' := e3 u W hz
    simp [evE, evA, bindX, okO, cellD, Cell.val, Cell.mine, mineAt, getAll, RA.get, allV, opT, opD, e1, e2, e3']
  have hm : (I ks).map fm = I (ks.map gm) := by
    show (ks.map D.int).map fm = (ks.map gm).map D.int
    rw [List.map_map, List.map_map]
    rfl
  rw [hm] at hc
  have hr : fop .rev [.lst (I (ks.map gm))] = some (.lst (I (ks.map gm).reverse)) := by
    show some (D.lst (I (ks.map gm)).reverse) = _
    rw [← List.map_reverse]
  generalize OC.lc [13] (.seq (.var 0)) (.name 13) (.op .mod (.e (.op .abs (.s 13 .nil)) (.e (.op .pow (.e (.cst (.int 10)) (.e (.cst (.int 60)) .nil))) .nil))) = LC at hc ⊢
  generalize I (ks.map gm) = A at hc hr
  generalize I (ks.map gm).reverse = A2 at hr ⊢
  simp [evS, bindF, evE, evA, evO, bindX, okO, nxO, setD, cellD, Cell.val, Cell.mine, Cell.put, mineAt, getAll, RA.get, allV, hc, hr]
theorem law_run {m : Nat} (hm : 5 ≤ m) (ns : List Int) : run T (m + 1) 22 [.scr ns] = some (.ret (.bl true) []) := by
  have cd1 : T.code 1 = some f__law_draw := rfl
  have cd4 : T.code 4 = some f__law_two := rfl
  have cd13 : T.code 13 = some f__law_object := rfl
  have cd15 : T.code 15 = some f__law_stays := rfl
  refine run_S (c := f_law) rfl rfl (by decide) ?_
  have t0 := start_s (m := m) (ns := ns)
  have hk : (ns.take 63).length ≤ 63 := by rw [List.length_take]; omega
  obtain ⟨p, lp, t1⟩ := start_p (m := m) hk
  generalize hks : D.lst (I (ns.take 63)) = ks at t0 t1
  obtain ⟨r1, p1, _, _, l1, e1⟩ := draw_ix (m := m) (by omega) (p := p) (by omega) (k := 8) (by decide) (by decide)
  have q1 : op2 .eq (.int r1) (.int 5) = some (.bl (r1 == 5)) := rfl
  generalize (r1 == 5) = g at q1
  have t2 : evS T (run T m) (.set 2 (.op .eq (.e (.call 1 (.s 1 (.e (.cst (.int 8)) .nil))) (.e (.cst (.int 5)) .nil)))) (E0 (.fz ks) (.own (.lst (I p)))) = some (.nx [.fz ks, .own (.lst (I p1)), .fz (.bl g), .emp, .emp, .emp, .emp, .emp, .emp, .emp, .emp, .emp, .emp, .emp]) := by
    simp [evSs, evS, bindF, evE, evA, evO, bindX, okO, nxO, setD, cellD, Cell.val, Cell.mine, Cell.put, mineAt, getAll, RA.get, allV, opT, opD, callD, DV.argsOk, argsOk2, argOk, ioSl, putOuts, callD.okO', cd1, f__law_draw, e1, q1]
  obtain ⟨r2, p2, a0, a1, l2, e2⟩ := draw_ix (m := m) (by omega) (p := p1) (by omega) (k := 35) (by decide) (by decide)
  have q2 : op2 .add (.int 6) (.int r2) = some (.int ((6 + r2).toNat : Nat)) := by
    rw [Int.toNat_of_nonneg (by omega)]
    rfl
  have t3 : evS T (run T m) (.set 3 (.fr (.lst (.e (.op .add (.e (.cst (.int 6)) (.e (.call 1 (.s 1 (.e (.cst (.int 35)) .nil))) .nil))) .nil)))) [.fz ks, .own (.lst (I p1)), .fz (.bl g), .emp, .emp, .emp, .emp, .emp, .emp, .emp, .emp, .emp, .emp, .emp] = some (.nx [.fz ks, .own (.lst (I p2)), .fz (.bl g), .fz (.lst (N [(6 + r2).toNat])), .emp, .emp, .emp, .emp, .emp, .emp, .emp, .emp, .emp, .emp]) := by
    generalize ((6 + r2).toNat : Nat) = t at q2 ⊢
    simp [evSs, evS, bindF, evE, evA, evO, bindX, okO, nxO, setD, cellD, Cell.val, Cell.mine, Cell.put, mineAt, getAll, RA.get, allV, opT, opD, callD, DV.argsOk, argsOk2, argOk, ioSl, putOuts, callD.okO', cd1, f__law_draw, e2, q2]
  have t4 : ∃ (ls : List Nat) (p4 : List Int), p4.length ≤ p2.length ∧ ls.length ≤ 2 ∧ (∀ t ∈ ls, t ≤ 200) ∧ evS T (run T m) (.ite (.op .eq (.e (.call 1 (.s 1 (.e (.cst (.int 8)) .nil))) (.e (.cst (.int 6)) .nil))) (.cons (.set 3 (.fr (.lst (.e (.cst (.int 200)) (.e (.op .sub (.e (.cst (.int 199)) (.e (.call 1 (.s 1 (.e (.cst (.int 159)) .nil))) .nil))) .nil))))) .nil) .nil) [.fz ks, .own (.lst (I p2)), .fz (.bl g), .fz (.lst (N [(6 + r2).toNat])), .emp, .emp, .emp, .emp, .emp, .emp, .emp, .emp, .emp, .emp] = some (.nx [.fz ks, .own (.lst (I p4)), .fz (.bl g), .fz (.lst (N ls)), .emp, .emp, .emp, .emp, .emp, .emp, .emp, .emp, .emp, .emp]) := by
    obtain ⟨r3, p3, _, _, l3, e3⟩ := draw_ix (m := m) (by omega) (p := p2) (by omega) (k := 8) (by decide) (by decide)
    have q3 : op2 .eq (.int r3) (.int 6) = some (.bl (r3 == 6)) := rfl
    generalize (r3 == 6) = b at q3
    cases b with
    | false =>
      refine ⟨[(6 + r2).toNat], p3, l3, by simp, fun t h => by rw [List.mem_singleton] at h; omega, ?_⟩
      generalize ((6 + r2).toNat : Nat) = t
      simp [evSs, evS, bindF, evE, evA, evO, bindX, okO, nxO, setD, cellD, Cell.val, Cell.mine, Cell.put, mineAt, getAll, RA.get, allV, opT, opD, callD, DV.argsOk, argsOk2, argOk, ioSl, putOuts, callD.okO', boolF, cd1, f__law_draw, e3, q3]
    | true =>
      obtain ⟨r4, p4, b0, b1, l4, e4⟩ := draw_ix (m := m) (by omega) (p := p3) (by omega) (k := 159) (by decide) (by decide)
      have q4 : op2 .sub (.int 199) (.int r4) = some (.int ((199 - r4).toNat : Nat)) := by
        rw [Int.toNat_of_nonneg (by omega)]
        rfl
      refine ⟨[200, (199 - r4).toNat], p4, by omega, by simp, fun t h => by
        rcases List.mem_cons.mp h with rfl | h
        · decide
        · rw [List.mem_singleton] at h; omega, ?_⟩
      generalize ((199 - r4).toNat : Nat) = t at q4 ⊢
      simp [evSs, evS, bindF, evE, evA, evO, bindX, okO, nxO, setD, cellD, Cell.val, Cell.mine, Cell.put, mineAt, getAll, RA.get, allV, opT, opD, callD, DV.argsOk, argsOk2, argOk, ioSl, putOuts, callD.okO', boolF, cd1, f__law_draw, e3, q3, e4, q4]
  obtain ⟨ls, p4, l4, hl2, hls, t4⟩ := t4
  obtain ⟨cs, n, n2, st, rows, ws, st2, rows2, ws2, p5, hz, g1, g2, e5⟩ := two_sp (p := p4) (by omega) g m (by omega)
  let z : Two := ⟨cs, st, rows, ws, n, st2, rows2, ws2, n2⟩
  have hT : TOK z := ⟨hz.c, g1, g2, hz.n1, by have := hz.m1; show n2 ≤ 60; omega⟩
  have e5' : run T m 4 [.lst (I p4), .bl g] = some (.ret (.lst [z.v1, z.v2]) [.lst (I p5)]) := e5
  have e6 : run T m 13 [z.v1] = some (.ret z.m1 []) := object_sp hz.c g1 hz.n1 m hm
  have e7 : run T m 13 [z.v2] = some (.ret z.m2 []) := object_sp hz.c g2 (by have := hz.m1; omega) m hm
  have e8 : run T m 15 [z.m1, z.v1] = some (.ret (.bl true) []) := stays_sp hz.c g1 hz.n1 m (by omega)
  have e9 : run T m 15 [z.m2, z.v2] = some (.ret (.bl true) []) := stays_sp hz.c g2 (by have := hz.m1; omega) m (by omega)
  have t5 : evS T (run T m) (.unp true [9, 10] (.call 4 (.s 1 (.e (.var 2) .nil)))) [.fz ks, .own (.lst (I p4)), .fz (.bl g), .fz (.lst (N ls)), .emp, .emp, .emp, .emp, .emp, .emp, .emp, .emp, .emp, .emp] = some (.nx [.fz ks, .own (.lst (I p5)), .fz (.bl g), .fz (.lst (N ls)), .emp, .emp, .emp, .emp, .emp, .fz z.v1, .fz z.v2, .emp, .emp, .emp]) := by
    generalize z.v1 = v1 at e5' ⊢
    generalize z.v2 = v2 at e5' ⊢
    simp [evSs, evS, bindF, evE, evA, evO, bindX, okO, nxO, setD, cellD, Cell.val, Cell.mine, Cell.put, mineAt, getAll, RA.get, allV, opT, opD, callD, DV.argsOk, argsOk2, argOk, ioSl, putOuts, callD.okO', setTg, cd4, f__law_two, e5']
  have t6 : evS T (run T m) (.set 4 (.call 13 (.e (.var 9) .nil))) [.fz ks, .own (.lst (I p5)), .fz (.bl g), .fz (.lst (N ls)), .emp, .emp, .emp, .emp, .emp, .fz z.v1, .fz z.v2, .emp, .emp, .emp] = some (.nx [.fz ks, .own (.lst (I p5)), .fz (.bl g), .fz (.lst (N ls)), .fz z.m1, .emp, .emp, .emp, .emp, .fz z.v1, .fz z.v2, .emp, .emp, .emp]) := by
    simp [evSs, evS, bindF, evE, evA, evO, bindX, okO, nxO, setD, cellD, Cell.val, Cell.mine, Cell.put, mineAt, getAll, RA.get, allV, opT, opD, callD, DV.argsOk, argsOk2, argOk, ioSl, putOuts, callD.okO', cd13, f__law_object, e6]
  have t7 : evS T (run T m) (.set 5 (.call 13 (.e (.var 10) .nil))) [.fz ks, .own (.lst (I p5)), .fz (.bl g), .fz (.lst (N ls)), .fz z.m1, .emp, .emp, .emp, .emp, .fz z.v1, .fz z.v2, .emp, .emp, .emp] = some (.nx [.fz ks, .own (.lst (I p5)), .fz (.bl g), .fz (.lst (N ls)), .fz z.m1, .fz z.m2, .emp, .emp, .emp, .fz z.v1, .fz z.v2, .emp, .emp, .emp]) := by
    simp [evSs, evS, bindF, evE, evA, evO, bindX, okO, nxO, setD, cellD, Cell.val, Cell.mine, Cell.put, mineAt, getAll, RA.get, allV, opT, opD, callD, DV.argsOk, argsOk2, argOk, ioSl, putOuts, callD.okO', cd13, f__law_object, e7]
  have t8 : evS T (run T m) (.setO 6 (.lst .nil)) [.fz ks, .own (.lst (I p5)), .fz (.bl g), .fz (.lst (N ls)), .fz z.m1, .fz z.m2, .emp, .emp, .emp, .fz z.v1, .fz z.v2, .emp, .emp, .emp] = some (.nx (En z g ls (.fz ks) (.own (.lst (I p5))) (.own (.lst ((ls.take 0).map z.e))) .emp .emp .emp .emp .emp)) := by
    simp [evSs, evS, bindF, evE, evA, evO, bindX, okO, nxO, setD, cellD, Cell.val, Cell.mine, Cell.put, mineAt, getAll, RA.get, allV, opT, opD, callD, DV.argsOk, argsOk2, argOk, ioSl, putOuts, callD.okO']
  have i1 : evI T (run T m) (.seq (.var 3)) (En z g ls (.fz ks) (.own (.lst (I p5))) (.own (.lst ((ls.take 0).map z.e))) .emp .emp .emp .emp .emp) = some (.ok (N ls) (En z g ls (.fz ks) (.own (.lst (I p5))) (.own (.lst ((ls.take 0).map z.e))) .emp .emp .emp .emp .emp)) := rfl
  obtain ⟨f1, t9, x7, rfl⟩ := for_ok (tg := .name 7) (body := lb 9) (fun i e => ∃ x7, e = En z g ls (.fz ks) (.own (.lst (I p5))) (.own (.lst ((ls.take i).map z.e))) x7 .emp .emp .emp .emp) i1 ⟨.emp, rfl⟩ fun j d e hj ⟨x7, ee⟩ => by
    subst ee
    rw [List.getElem?_map] at hj
    cases q : ls[j]? with
    | none => rw [q] at hj; cases hj
    | some t =>
      rw [q] at hj
      cases hj
      have ht := hls t (List.mem_of_getElem? q)
      have hs := far_step (m := m) (by omega) hT (g := g) (ls := ls) (fs := ls.take j) (t := t) (by omega) (by rw [List.length_take]; omega) (c0 := .fz ks) (c1 := .own (.lst (I p5))) (x8 := .emp) (x11 := .emp) (x12 := .emp) (x13 := .emp)
      refine ⟨_, _, rfl, hs, .fz (.int (t : Nat)), ?_⟩
      rw [List.take_add_one, q]
      rfl
  have hN : (ls.take (N ls).length).map z.e = ls.map z.e := by rw [List.length_map, List.take_length]
  rw [hN] at t9
  have i2 : ∀ x7 x8 x11 x12, evI T (run T m) (.rng1 (.op .len (.s 3 .nil))) (En z g ls (.fz ks) (.own (.lst (I p5))) (.own (.lst (ls.map z.e))) x7 x8 x11 x12 .emp) = some (.ok (rngD 0 (ls.length : Nat)) (En z g ls (.fz ks) (.own (.lst (I p5))) (.own (.lst (ls.map z.e))) x7 x8 x11 x12 .emp)) := fun x7 x8 x11 x12 => by
    have hlen : op1 .len (.lst (N ls)) = some (.int (ls.length : Nat)) := by
      show some (D.int ((N ls).length : Nat)) = _
      rw [List.length_map]
    exact evI_rng1 (by
      generalize ls.map z.e = fl
      simp [evSs, evS, bindF, evE, evA, evO, bindX, okO, nxO, setD, cellD, Cell.val, Cell.mine, Cell.put, mineAt, getAll, RA.get, allV, opT, opD, callD, DV.argsOk, argsOk2, argOk, ioSl, putOuts, callD.okO', hlen]) (by omega)
  obtain ⟨f2, t10, x7', x8', x11', rfl⟩ := for_ok (tg := .name 8) (body := lb 10) (fun i e => ∃ x7 x8 x11, e = En z g ls (.fz ks) (.own (.lst (I p5))) (.own (.lst (ls.map z.e))) x7 x8 x11 .emp .emp) (i2 x7 .emp .emp .emp) ⟨_, _, _, rfl⟩ fun j d e hj ⟨x7, x8, x11, ee⟩ => by
    subst ee
    obtain ⟨hlt, rfl⟩ := rng_get hj
    have hs := tell_step (m := m) (by omega) hT (g := g) (ls := ls) (j := j) (t := ls[j]) (List.getElem?_eq_getElem hlt) (hls _ (List.getElem_mem hlt)) (c0 := .fz ks) (c1 := .own (.lst (I p5))) (x7 := x7) (x11 := x11) (x12 := .emp) (x13 := .emp) (k := 10) (.inl rfl)
    exact ⟨_, _, rfl, hs, _, _, _, rfl⟩
  have i3 : ∃ n : Nat, n ≤ 6 ∧ evI T (run T m) (.rng1 (.ifx (.var 2) (.cst (.int 4)) (.cst (.int 6)))) (En z g ls (.fz ks) (.own (.lst (I p5))) (.own (.lst (ls.map z.e))) x7' x8' x11' .emp .emp) = some (.ok (rngD 0 (n : Nat)) (En z g ls (.fz ks) (.own (.lst (I p5))) (.own (.lst (ls.map z.e))) x7' x8' x11' .emp .emp)) := by
    generalize ls.map z.e = fl
    cases g with
    | true => exact ⟨4, by omega, evI_rng1 (by simp [evE, boolX, bindX]) (by omega)⟩
    | false => exact ⟨6, by omega, evI_rng1 (by simp [evE, boolX, bindX]) (by omega)⟩
  obtain ⟨nn, hnn, i3⟩ := i3
  obtain ⟨f3, t11, x7'', x11'', x12'', rfl⟩ := for_ok (tg := .name 7) (body := lb 11) (fun i e => ∃ x7 x11 x12, e = En z g ls (.fz ks) (.own (.lst (I p5))) (.own (.lst (ls.map z.e))) x7 x8' x11 x12 .emp) i3 ⟨_, _, _, rfl⟩ fun j d e hj ⟨x7, x11, x12, ee⟩ => by
    subst ee
    obtain ⟨hlt, rfl⟩ := rng_get hj
    have hs := near_step (m := m) (by omega) hT (g := g) (ls := ls) (t := j) (by omega) (c0 := .fz ks) (c1 := .own (.lst (I p5))) (far := .own (.lst (ls.map z.e))) (x8 := x8') (x11 := x11) (x12 := x12) (x13 := .emp)
    exact ⟨_, _, rfl, hs, _, _, _, rfl⟩
  obtain ⟨f4, t12, x7q, x8q, x11q, x12q, rfl⟩ := for_ok (tg := .name 8) (body := lb 12) (fun i e => ∃ x7 x8 x11 x12, e = En z g ls (.fz ks) (.own (.lst (I p5))) (.own (.lst (ls.map z.e))) x7 x8 x11 x12 .emp) (i2 x7'' x8' x11'' x12'') ⟨_, _, _, _, rfl⟩ fun j d e hj ⟨x7, x8, x11, x12, ee⟩ => by
    subst ee
    obtain ⟨hlt, rfl⟩ := rng_get hj
    have hs := tell_step (m := m) (by omega) hT (g := g) (ls := ls) (j := j) (t := ls[j]) (List.getElem?_eq_getElem hlt) (hls _ (List.getElem_mem hlt)) (c0 := .fz ks) (c1 := .own (.lst (I p5))) (x7 := x7) (x11 := x11) (x12 := x12) (x13 := .emp) (k := 12) (.inr rfl)
    exact ⟨_, _, rfl, hs, _, _, _, _, rfl⟩
  have t13 : evS T (run T m) (.ret (.and (.call 15 (.e (.var 4) (.e (.var 9) .nil))) (.call 15 (.e (.var 5) (.e (.var 10) .nil))))) (En z g ls (.fz ks) (.own (.lst (I p5))) (.own (.lst (ls.map z.e))) x7q x8q x11q x12q .emp) = some (.rt (.bl true) (En z g ls (.fz ks) (.own (.lst (I p5))) (.own (.lst (ls.map z.e))) x7q x8q x11q x12q .emp)) := by
    generalize ls.map z.e = fl
    generalize N ls = nl
    simp [evSs, evS, bindF, evE, evA, evO, bindX, okO, nxO, setD, cellD, Cell.val, Cell.mine, Cell.put, mineAt, getAll, RA.get, allV, opT, opD, callD, DV.argsOk, argsOk2, argOk, ioSl, putOuts, callD.okO', boolX, cd15, f__law_stays, e8, e9]
  show endC f_law (evSs T (run T m) c_law (E0 (.fz (.scr ns)) .emp)) = _
  exact (congrArg (endC f_law) (evSs_cons t0 (evSs_cons t1 (evSs_cons t2 (evSs_cons t3 (evSs_cons t4 (evSs_cons t5 (evSs_cons t6 (evSs_cons t7 (evSs_cons t8 (evSs_cons t9 (evSs_cons t10 (evSs_cons t11 (evSs_cons t12 (evSs_ret t13))))))))))))))).trans rfl
end L69


set_option maxRecDepth 100000
set_option maxHeartbeats 0
/-! the head of k69: facts, the run. -/
namespace P69
open PySem PySem.Spec PyProof.Rows L2 DV
def h__law_outside : He.DefD := ⟨("_law_outside", none), "_law_outside", "_law_outside", defArgs (top 35), defBody (top 35), defScope (top 35), [], []⟩
def h__law_draw : He.DefD := ⟨("_law_draw", none), "_law_draw", "_law_draw", defArgs (top 33), defBody (top 33), defScope (top 33), [], []⟩
def h__law_pick_letters : He.DefD := ⟨("_law_pick_letters", none), "_law_pick_letters", "_law_pick_letters", defArgs (top 36), defBody (top 36), defScope (top 36), [], []⟩
def h__law_build : He.DefD := ⟨("_law_build", none), "_law_build", "_law_build", defArgs (top 37), defBody (top 37), defScope (top 37), [], []⟩
def h__law_two : He.DefD := ⟨("_law_two", none), "_law_two", "_law_two", defArgs (top 43), defBody (top 43), defScope (top 43), [], []⟩
def h_alphabet_fault : He.DefD := ⟨("alphabet_fault", none), "alphabet_fault", "alphabet_fault", defArgs (top 23), defBody (top 23), defScope (top 23), [], []⟩
def h_check_alphabet : He.DefD := ⟨("check_alphabet", none), "check_alphabet", "check_alphabet", defArgs (top 24), defBody (top 24), defScope (top 24), [], []⟩
def h_check_state : He.DefD := ⟨("check_state", none), "check_state", "check_state", defArgs (top 27), defBody (top 27), defScope (top 27), [], []⟩
def h_checked_states : He.DefD := ⟨("checked_states", none), "checked_states", "checked_states", defArgs (top 28), defBody (top 28), defScope (top 28), [], []⟩
def h_checked_steps : He.DefD := ⟨("checked_steps", none), "checked_steps", "checked_steps", defArgs (top 29), defBody (top 29), defScope (top 29), [], []⟩
def h_check_verdict : He.DefD := ⟨("check_verdict", none), "check_verdict", "check_verdict", defArgs (top 11), defBody (top 11), defScope (top 11), [], []⟩
def h_checked_verdicts : He.DefD := ⟨("checked_verdicts", none), "checked_verdicts", "checked_verdicts", defArgs (top 30), defBody (top 30), defScope (top 30), [], []⟩
def h_Machine___init__ : He.DefD := ⟨("Machine", some "__init__"), "__init__", "Machine.__init__", defArgs (inClass (top 26) 0), defBody (inClass (top 26) 0), defScope (inClass (top 26) 0), [], []⟩
def h__law_object : He.DefD := ⟨("_law_object", none), "_law_object", "_law_object", defArgs (top 38), defBody (top 38), defScope (top 38), [], []⟩
def h__law_same : He.DefD := ⟨("_law_same", none), "_law_same", "_law_same", defArgs (top 34), defBody (top 34), defScope (top 34), [], []⟩
def h__law_stays : He.DefD := ⟨("_law_stays", none), "_law_stays", "_law_stays", defArgs (top 39), defBody (top 39), defScope (top 39), [], []⟩
def h_Machine___len__ : He.DefD := ⟨("Machine", some "__len__"), "__len__", "Machine.__len__", defArgs (inClass (top 26) 6), defBody (inClass (top 26) 6), defScope (inClass (top 26) 6), [], []⟩
def h__sum_of : He.DefD := ⟨("_sum_of", none), "_sum_of", "_sum_of", defArgs (top 18), defBody (top 18), defScope (top 18), [], []⟩
def h_count_texts : He.DefD := ⟨("count_texts", none), "count_texts", "count_texts", defArgs (top 17), defBody (top 17), defScope (top 17), [], []⟩
def h__law_listed : He.DefD := ⟨("_law_listed", none), "_law_listed", "_law_listed", defArgs (top 40), defBody (top 40), defScope (top 40), [], []⟩
def h__law_ways : He.DefD := ⟨("_law_ways", none), "_law_ways", "_law_ways", defArgs (top 41), defBody (top 41), defScope (top 41), [], []⟩
def h__law_sums : He.DefD := ⟨("_law_sums", none), "_law_sums", "_law_sums", defArgs (top 42), defBody (top 42), defScope (top 42), [], []⟩
def h_law : He.DefD := ⟨("law", none), "law", "law", defArgs (top 44), defBody (top 44), defScope (top 44), [], []⟩
def fn : List He.DefD := [h__law_outside, h__law_draw, h__law_pick_letters, h__law_build, h__law_two, h_alphabet_fault, h_check_alphabet, h_check_state, h_checked_states, h_checked_steps, h_check_verdict, h_checked_verdicts, h_Machine___init__, h__law_object, h__law_same, h__law_stays, h_Machine___len__, h__sum_of, h_count_texts, h__law_listed, h__law_ways, h__law_sums, h_law]
def fa : List He.Fa := [.glo "_law_outside", .glo "_law_draw", .glo "_law_pick_letters", .glo "_law_build", .glo "_law_two", .glo "alphabet_fault", .glo "check_alphabet", .glo "check_state", .glo "checked_states", .glo "checked_steps", .glo "check_verdict", .glo "checked_verdicts", .glo "_law_object", .glo "_law_same", .glo "_law_stays", .glo "_sum_of", .glo "count_texts", .glo "_law_listed", .glo "_law_ways", .glo "_law_sums", .glo "law", .glo "Machine", .free "len", .free "int", .free "abs", .free "sum", .free "tuple", .free "list", .free "repr", .free "range", .free "zip", .free "enumerate", .cls "Machine", .mkr "Machine", .noat "Machine" "alphabet", .noat "Machine" "start", .noat "Machine" "steps", .noat "Machine" "verdicts", .meth "Machine" "__len__", .glo "WORDS", .str "LETTERS" "abcdefghijklmnopqrstuvwxyz0123456789(),;=.+-*:", .int "LARGEST_ALPHABET" 6]
def ts : List He.Tab := []
def ex (K : PySem.W.Frag) : Bool := He.tupB K "WORDS" [.str "in", .str "hung", .str "out"]
abbrev R : PySem.W.OpenRow := PySem.W.OpenLaw.row PySem.Challenge.rw_alsoandnot_k69_machine_counts_by_length
abbrev hk : PySem.W.Hook := hookX 5 fa fn ts ex
def ob (s : PySem.W.SharedT) : AlX := obsXG 5 fa fn ts ex (HandSHeadRun.getT s)
theorem ob_eq (s : PySem.W.SharedT) : ob s = hk.obs s.abs := obsXG_eq (HandSHeadRun.getT_eq s)
def looseL : List Str := (["BookError", "BadText", "BadAlphabet", "BadVerdict", "WrongCount", "BadState", "OtherAlphabet", "WORDS", "RESTS", "check_verdict", "check_verdicts", "least_of", "greatest_of", "rest_of", "count_texts", "_sum_of", "LETTERS", "LARGEST_ALPHABET", "check_over", "alphabet_fault"] : List Str) ++ (["check_alphabet", "Machine", "check_state", "checked_states", "checked_steps", "checked_verdicts", "pairs_by_texts", "_law_draw", "_law_same", "_law_outside", "_law_pick_letters", "_law_build", "_law_object", "_law_stays", "_law_listed", "_law_ways", "_law_sums", "_law_two"] : List Str)
theorem runF (w : World) : HandSHeadRun.RunEq R (PySem.W.view R.prog [44]) hk ob 20000 looseL (w.withFollow "special-get-raises" false) := by
  intro os
  kernel_rfl
theorem runT (w : World) : HandSHeadRun.RunEq R (PySem.W.view R.prog [44]) hk ob 20000 looseL (w.withFollow "special-get-raises" true) := by
  intro os
  kernel_rfl
theorem runH (w : World) : HandSHeadRun.RunEq R (PySem.W.view R.prog [44]) hk ob 20000 looseL w := PySem.W.byRow2 "special-get-raises" (P := fun w => HandSHeadRun.RunEq R (PySem.W.view R.prog [44]) hk ob 20000 looseL w) runF runT w
theorem fx_of {w : World} {K : PySem.W.Frag} {h : Heap} {mg : Str → Option Value} (X : K.In h) (G : h.Ns mainGlobals mg) (c : SaysX fa fn ts ex w K) : Fx K mg where
  bi := ⟨He.free_ok X G (c.t.d.fact 22 rfl), He.free_ok X G (c.t.d.fact 23 rfl), He.free_ok X G (c.t.d.fact 24 rfl), He.free_ok X G (c.t.d.fact 25 rfl), He.free_ok X G (c.t.d.fact 26 rfl), He.free_ok X G (c.t.d.fact 27 rfl), He.free_ok X G (c.t.d.fact 28 rfl), He.free_ok X G (c.t.d.fact 29 rfl), He.free_ok X G (c.t.d.fact 30 rfl), He.free_ok X G (c.t.d.fact 31 rfl)⟩
  g__law_outside := He.glo_ok X G (c.t.d.fact 0 rfl)
  g__law_draw := He.glo_ok X G (c.t.d.fact 1 rfl)
  g__law_pick_letters := He.glo_ok X G (c.t.d.fact 2 rfl)
  g__law_build := He.glo_ok X G (c.t.d.fact 3 rfl)
  g__law_two := He.glo_ok X G (c.t.d.fact 4 rfl)
  g_alphabet_fault := He.glo_ok X G (c.t.d.fact 5 rfl)
  g_check_alphabet := He.glo_ok X G (c.t.d.fact 6 rfl)
  g_check_state := He.glo_ok X G (c.t.d.fact 7 rfl)
  g_checked_states := He.glo_ok X G (c.t.d.fact 8 rfl)
  g_checked_steps := He.glo_ok X G (c.t.d.fact 9 rfl)
  g_check_verdict := He.glo_ok X G (c.t.d.fact 10 rfl)
  g_checked_verdicts := He.glo_ok X G (c.t.d.fact 11 rfl)
  g__law_object := He.glo_ok X G (c.t.d.fact 12 rfl)
  g__law_same := He.glo_ok X G (c.t.d.fact 13 rfl)
  g__law_stays := He.glo_ok X G (c.t.d.fact 14 rfl)
  g__sum_of := He.glo_ok X G (c.t.d.fact 15 rfl)
  g_count_texts := He.glo_ok X G (c.t.d.fact 16 rfl)
  g__law_listed := He.glo_ok X G (c.t.d.fact 17 rfl)
  g__law_ways := He.glo_ok X G (c.t.d.fact 18 rfl)
  g__law_sums := He.glo_ok X G (c.t.d.fact 19 rfl)
  g_Machine := He.glo_ok X G (c.t.d.fact 21 rfl)
  cls_Machine := He.cls_ok (c.t.d.fact 32 rfl)
  mk_Machine := He.mkr_ok (c.t.d.fact 33 rfl)
  na_Machine_alphabet := He.noat_ok (c.t.d.fact 34 rfl)
  na_Machine_start := He.noat_ok (c.t.d.fact 35 rfl)
  na_Machine_steps := He.noat_ok (c.t.d.fact 36 rfl)
  na_Machine_verdicts := He.noat_ok (c.t.d.fact 37 rfl)
  me_Machine___len__ := He.meth_ok (c.t.d.fact 38 rfl)
  k_WORDS := ⟨He.glo_ok X G (c.t.d.fact 39 rfl), fun H => He.tupB_ok c.x H⟩
  k_LETTERS := He.str_ok X G (c.t.d.fact 40 rfl)
  k_LARGEST_ALPHABET := He.int_ok X G (c.t.d.fact 41 rfl)
  d__law_outside := c.t.d.def_ 0 (d := h__law_outside) rfl
  d__law_draw := c.t.d.def_ 1 (d := h__law_draw) rfl
  d__law_pick_letters := c.t.d.def_ 2 (d := h__law_pick_letters) rfl
  d__law_build := c.t.d.def_ 3 (d := h__law_build) rfl
  d__law_two := c.t.d.def_ 4 (d := h__law_two) rfl
  d_alphabet_fault := c.t.d.def_ 5 (d := h_alphabet_fault) rfl
  d_check_alphabet := c.t.d.def_ 6 (d := h_check_alphabet) rfl
  d_check_state := c.t.d.def_ 7 (d := h_check_state) rfl
  d_checked_states := c.t.d.def_ 8 (d := h_checked_states) rfl
  d_checked_steps := c.t.d.def_ 9 (d := h_checked_steps) rfl
  d_check_verdict := c.t.d.def_ 10 (d := h_check_verdict) rfl
  d_checked_verdicts := c.t.d.def_ 11 (d := h_checked_verdicts) rfl
  d_Machine___init__ := c.t.d.def_ 12 (d := h_Machine___init__) rfl
  d__law_object := c.t.d.def_ 13 (d := h__law_object) rfl
  d__law_same := c.t.d.def_ 14 (d := h__law_same) rfl
  d__law_stays := c.t.d.def_ 15 (d := h__law_stays) rfl
  d_Machine___len__ := c.t.d.def_ 16 (d := h_Machine___len__) rfl
  d__sum_of := c.t.d.def_ 17 (d := h__sum_of) rfl
  d_count_texts := c.t.d.def_ 18 (d := h_count_texts) rfl
  d__law_listed := c.t.d.def_ 19 (d := h__law_listed) rfl
  d__law_ways := c.t.d.def_ 20 (d := h__law_ways) rfl
  d__law_sums := c.t.d.def_ 21 (d := h__law_sums) rfl
  d_law := c.t.d.def_ 22 (d := h_law) rfl
def lawAt : Nat := 44
end P69


set_option maxRecDepth 100000
set_option maxHeartbeats 0
/-! F69: the head and the walk of k69 joined. -/
namespace F69
open PySem PySem.Spec PyProof.Rows L2 DV
theorem facts {w : World} {K : PySem.W.Frag} {h : Heap} {mg : Str → Option Value} {f : Addr} (HL : ∀ ns : List Int, ns.length ≤ 63 → run P69.T 6 22 [.scr ns] = some (.ret (.bl true) []))
    (X : K.In h) (G : h.Ns mainGlobals mg) (hfa : mg ("law" : Str) = some (.ref f)) (c : SaysX P69.fa P69.fn P69.ts P69.ex w K) :
    ∃ (fd : FuncData) (sp : Sp), (∀ (s : Shared) (u : Value), BindsTo s fd ⟨[u], []⟩ [("script", u)]) ∧
        (∀ (H : Hp) (a : Addr) (ns : List Int), ns.length ≤ 63 → SqL K H a (ns.map V.int) → sp [.ref a] H (fun v _ => v = .bl true) fun _ _ _ => False) ∧
        ∀ base : Heap, K.In base → base.Ns mainGlobals mg → FnG (PySem.Challenge.rw_alsoandnot_k69_machine_counts_by_length).prog w K mg base 12 f fd ["script"] sp := by
  have Z := P69.fx_of X G c
  have e := hfa.symm.trans (He.glo_ok X G (c.t.d.fact 20 (f := .glo "law") rfl))
  cases e
  obtain ⟨fd, D⟩ := Z.d_law
  have b := FunD.bindsA (ps := ["script"]) D fun _ _ _ _ _ _ us hl => match us, hl with | [_], _ => rfl
  refine ⟨fd, spF K (P69.ca K) P69.T (run P69.T 6) 22, fun s v => b s [v] rfl, fun H a ns hl hS => sp_law (c := P69.f_law) rfl rfl rfl hS (HL ns hl), fun base hX hG => ?_⟩
  have O := P69.ok (P := (PySem.Challenge.rw_alsoandnot_k69_machine_counts_by_length).prog) (w := w) (base := base) (mg := mg) Z 5
  exact fnG_of D P69.sc_law rfl rfl rfl (fun ds => P69.run_hr 5 _ _ ds rfl) fun cdv Ar outer s H E go po => P69.b_law Z O.all O.kw_count_texts _ cdv Ar outer s H E go po
theorem fin69 (HL : ∀ ns : List Int, ns.length ≤ 63 → run P69.T 6 22 [.scr ns] = some (.ret (.bl true) [])) : PySem.Challenge.rw_alsoandnot_k69_machine_counts_by_length.Holds := by
  w_on; o_law
  refine HandSHeadRun.head_any (r := PySem.W.OpenLaw.row PySem.Challenge.rw_alsoandnot_k69_machine_counts_by_length) (q := PySem.W.view (PySem.W.OpenLaw.row PySem.Challenge.rw_alsoandnot_k69_machine_counts_by_length).prog [44]) (H := P69.hk) (ob := P69.ob) (M := 20000) (loose := P69.looseL) (d := HandSHeadRun.topDef (PySem.W.OpenLaw.row PySem.Challenge.rw_alsoandnot_k69_machine_counts_by_length).prog 44) (kwd := []) P69.ob_eq
    (by kernel_rfl) (fun s => by kernel_rfl) P69.runH (by kernel_rfl) (by kernel_rfl) (by kernel_rfl) (by rfl) (by first | assumption | decide +kernel) (by decide +kernel) ⟨rfl, rfl, rfl, rfl, rfl, by decide +kernel⟩ ?hw ?hc
  case hw => w_witness2
  case hc =>
    refine walk_G (l := PySem.Challenge.rw_alsoandnot_k69_machine_counts_by_length) (n := 63) (k := 12) (x := "script") (ca := fun _ _ _ => 0) rfl (by decide) (by kernel_rfl) ⟨rfl, by decide, by decide⟩ ?F
    intro w mg fa h Y G hmg0
    obtain ⟨K, KX, c⟩ := Y
    have hmg : mg ("law" : PySem.Str) = some (.ref fa) := by
      have e : (HandSHeadRun.topDef (PySem.W.OpenLaw.row PySem.Challenge.rw_alsoandnot_k69_machine_counts_by_length).prog 44).name = ("law" : PySem.Str) := by kernel_rfl
      rw [← e]
      exact hmg0
    obtain ⟨fd, sp, hb, hsp, hF⟩ := facts HL KX G hmg c
    exact ⟨K, fd, sp, KX, hb, hsp, hF⟩
end F69


theorem PySem.Challenge.cw_alsoandnot_k69_machine_counts_by_length_holds : PySem.Challenge.rw_alsoandnot_k69_machine_counts_by_length.Holds :=
  F69.fin69 fun ns _ => L69.law_run (Nat.le_refl 5) ns

