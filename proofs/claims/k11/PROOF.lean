import PyProof.Rows.All
import Wide.All
import OpenK.AllK
import Wide.FinOn
import KE.KStateDown
import KE.SortData
import HandS.ForMost
import HandS.More
import HandS.Exc
import HandS.TryOnly
import HandS.ExcOwn
import HandS.WordsExc
import HandS.Style
import HandS.Wide
import HandS.IsInst
import HandS.Defaults
import HandS.Head0
import HandS.Head1
import HandS.Head2
import HandS.HeadEnd
import HandS.HeadHook1
import HandS.HeadHook2
import HandS.Lambda
import HandS.ExcCtx
import HandS.TupAny
import HandS.Set
import HandS.SetKeys
import HandS.HeadHook4
import HandS.HeadWalk
import HandS.Conv
import KE.KEqDict
import HandS.HotCalls
import HandS.ExcIs
import HandS.Zip
import HandS.Deep
import KE.KDictPairs
import KE.KRevSl
import HandS.Text
import KE.SortKeyHeap
import HandS.ExcValue
import KE.GoesEnum
import HandS.ListItems
import KE.KItemsList
import KE.DataMinKey
import PyProof.WalkInts
import KE.KDictZip
import PySem.Challenge.RW_calltimes_k11_whole_hands_by_themselves
set_option Elab.async false
set_option linter.all false
set_option maxRecDepth 100000
set_option autoImplicit false
set_option maxHeartbeats 4000000
set_option exponentiation.threshold 400
namespace DL
open PySem PySem.Spec PyProof.Rows L2

/-! ### tables of code objects may change, all else that is told of a heap stays -/
class TabCtx where
  T : List (Addr × Str)
abbrev TabsH [TabCtx] (H : Hp) : Prop := LamX.Tabs TabCtx.T H
structure Kp [TabCtx] (H H' : Hp) : Prop where
  keep : ∀ b o, H b = some o → (∀ ps, o ≠ .tbl ps) → H' b = some o
  tabs : TabsH H → TabsH H'
/-- nothing there, but perhaps a table -/
def NT (H : Hp) (a : Addr) : Prop := ∀ o, H a = some o → ∃ ps, o = .tbl ps
theorem NT.of {H : Hp} {a : Addr} (h : H a = none) : NT H a := fun o e => by rw [h] at e; cases e
/-- no table in it -/
def NoTb (F : Hp) : Prop := ∀ b ps, F b ≠ some (.tbl ps)
variable [TabCtx]
theorem Kp.refl (H : Hp) : Kp H H := ⟨fun _ _ h _ => h, id⟩
theorem Kp.trans {H H1 H2 : Hp} (a : Kp H H1) (b : Kp H1 H2) : Kp H H2 := ⟨fun c o h n => b.keep c o (a.keep c o h n) n, fun t => b.tabs (a.tabs t)⟩
theorem Kp.nt {H H' : Hp} {a : Addr} (k : Kp H H') (n : NT H' a) : NT H a := fun o e => Classical.byContradiction fun z => z (n o (k.keep a o e fun ps q => z ⟨ps, q⟩))
theorem Kp.of {H H' : Hp} (s : Same H H') : Kp H H' := ⟨fun b o h _ => s b o h, fun t => t.ext fun b o h => s b o h⟩
theorem Kp.same {F H H' : Hp} (k : Kp H H') (s : Same F H) (n : NoTb F) : Same F H' := fun b o e => k.keep b o (s b o e) fun ps z => n b ps (z ▸ e)
theorem tabs_upd {H : Hp} {a : Addr} {u o : HO} (t : TabsH H) (ha : H a = some u) (h1 : ∀ ps, u ≠ .tbl ps) (h2 : ∀ φ, u ≠ .ext φ) : TabsH (upd H a o) := fun p hp => by
  obtain ⟨ps, e1, e2, e3⟩ := t p hp
  have n1 : p.1 ≠ a := fun z => by rw [z, ha] at e1; exact h1 ps (Option.some.inj e1)
  refine ⟨ps, by rw [upd_ne n1]; exact e1, e2, fun pos cv hc => ?_⟩
  obtain ⟨c, e4, e5⟩ := e3 pos cv hc
  have n2 : c ≠ a := fun z => by rw [z, ha] at e5; exact h2 _ (Option.some.inj e5)
  exact ⟨c, e4, by rw [upd_ne n2]; exact e5⟩
theorem Kp.write {H0 H : Hp} {a : Addr} {u o : HO} (k : Kp H0 H) (n0 : NT H0 a) (ha : H a = some u) (h1 : ∀ ps, u ≠ .tbl ps) (h2 : ∀ φ, u ≠ .ext φ) : Kp H0 (upd H a o) where
  keep b x e n := by
    have ne : b ≠ a := fun z => by
      obtain ⟨ps, q⟩ := n0 x (z ▸ e)
      exact n ps q
    rw [upd_ne ne]; exact k.keep b x e n
  tabs t := tabs_upd (k.tabs t) ha h1 h2
/-- a datum -/
inductive D where
  | non
  | bl (b : Bool)
  | int (i : Int)
  | str (s : Str)
  | lst (xs : List D)
  | tup (xs : List D)
  | dK (es : List (Key × D))
  | dT (es : List (List Key × D))
  | scr (ns : List Int)
  | adr (a : Addr)

section
variable (K : PySem.W.Frag)
mutual
/-- a value stands for a datum, off the part F of the heap that never changes -/
def Dv (F : Hp) : D → V → Prop
  | .non, v => v = .non
  | .bl b, v => v = .bl b
  | .int i, v => v = .int i
  | .str s, v => v = .str s
  | .lst ds, v => ∃ a vs, v = .ref a ∧ F a = some (.lst vs) ∧ DvL F ds vs
  | .tup ds, v => ∃ a vs, v = .ref a ∧ F a = some (.tup vs) ∧ DvL F ds vs
  | .dK es, v => ∃ a o kvs, v = .ref a ∧ F a = some (.frz o (.dK kvs)) ∧ DvK F es kvs
  | .dT es, v => ∃ a o kvs, v = .ref a ∧ F a = some (.frz o (.dT kvs)) ∧ DvT F es kvs
  | .scr ns, v => ∃ a, v = .ref a ∧ SqL K F a (ns.map V.int)
  | .adr a, v => v = .ref a
def DvL (F : Hp) : List D → List V → Prop
  | [], vs => vs = []
  | d :: ds, vs => ∃ v r, vs = v :: r ∧ Dv F d v ∧ DvL F ds r
def DvK (F : Hp) : List (Key × D) → List (Key × V) → Prop
  | [], kvs => kvs = []
  | (k, d) :: es, kvs => ∃ v r, kvs = (k, v) :: r ∧ Dv F d v ∧ DvK F es r
def DvT (F : Hp) : List (List Key × D) → List (List Key × V) → Prop
  | [], kvs => kvs = []
  | (k, d) :: es, kvs => ∃ v r, kvs = (k, v) :: r ∧ Dv F d v ∧ DvT F es r
end
end
variable {K : PySem.W.Frag}

mutual
theorem Dv.mono {F F' : Hp} (s : Same F F') : ∀ {d : D} {v : V}, Dv K F d v → Dv K F' d v
  | .non, _, h => h
  | .bl _, _, h => h
  | .int _, _, h => h
  | .str _, _, h => h
  | .lst _, _, ⟨a, vs, e, h, t⟩ => ⟨a, vs, e, s _ _ h, DvL.mono s t⟩
  | .tup _, _, ⟨a, vs, e, h, t⟩ => ⟨a, vs, e, s _ _ h, DvL.mono s t⟩
  | .dK _, _, ⟨a, o, vs, e, h, t⟩ => ⟨a, o, vs, e, s _ _ h, DvK.mono s t⟩
  | .dT _, _, ⟨a, o, vs, e, h, t⟩ => ⟨a, o, vs, e, s _ _ h, DvT.mono s t⟩
  | .scr _, _, ⟨a, e, h⟩ => ⟨a, e, s.seq h⟩
  | .adr _, _, h => h
theorem DvL.mono {F F' : Hp} (s : Same F F') : ∀ {ds : List D} {vs : List V}, DvL K F ds vs → DvL K F' ds vs
  | [], _, h => h
  | _ :: _, _, ⟨v, r, e, h, t⟩ => ⟨v, r, e, Dv.mono s h, DvL.mono s t⟩
theorem DvK.mono {F F' : Hp} (s : Same F F') : ∀ {ds : List (Key × D)} {vs : List (Key × V)}, DvK K F ds vs → DvK K F' ds vs
  | [], _, h => h
  | (_, _) :: _, _, ⟨v, r, e, h, t⟩ => ⟨v, r, e, Dv.mono s h, DvK.mono s t⟩
theorem DvT.mono {F F' : Hp} (s : Same F F') : ∀ {ds : List (List Key × D)} {vs : List (List Key × V)}, DvT K F ds vs → DvT K F' ds vs
  | [], _, h => h
  | (_, _) :: _, _, ⟨v, r, e, h, t⟩ => ⟨v, r, e, Dv.mono s h, DvT.mono s t⟩
end

/-- what stands at a changeable object that only one name holds: its parts lie in F -/
def OwnAt (K : PySem.W.Frag) (F H : Hp) (a : Addr) : D → Prop
  | .lst ds => ∃ vs, H a = some (.lst vs) ∧ DvL K F ds vs
  | .dK es => ∃ kvs, H a = some (.dK kvs) ∧ DvK K F es kvs
  | .dT es => ∃ kvs, H a = some (.dT kvs) ∧ DvT K F es kvs
  | _ => False
theorem OwnAt.mono {F F' H H' : Hp} {a : Addr} {d : D} (s : Same F F') (e : ∀ o, H a = some o → (∀ ps, o ≠ .tbl ps) → H' a = some o) (h : OwnAt K F H a d) : OwnAt K F' H' a d := by
  cases d with
  | lst ds => obtain ⟨vs, h, t⟩ := h; exact ⟨vs, e _ h (fun _ z => nomatch z), t.mono s⟩
  | dK es => obtain ⟨vs, h, t⟩ := h; exact ⟨vs, e _ h (fun _ z => nomatch z), t.mono s⟩
  | dT es => obtain ⟨vs, h, t⟩ := h; exact ⟨vs, e _ h (fun _ z => nomatch z), t.mono s⟩
  | _ => exact h.elim
theorem OwnAt.some {F H : Hp} {a : Addr} {d : D} (h : OwnAt K F H a d) : ∃ o, H a = Option.some o ∧ ∀ xs, o ≠ .tup xs := by
  cases d with
  | lst ds => obtain ⟨vs, h, t⟩ := h; exact ⟨_, h, fun _ z => nomatch z⟩
  | dK es => obtain ⟨vs, h, t⟩ := h; exact ⟨_, h, fun _ z => nomatch z⟩
  | dT es => obtain ⟨vs, h, t⟩ := h; exact ⟨_, h, fun _ z => nomatch z⟩
  | _ => exact h.elim
theorem OwnAt.mut {F H : Hp} {a : Addr} {d : D} (h : OwnAt K F H a d) : ∃ u, H a = Option.some u ∧ (∀ ps, u ≠ .tbl ps) ∧ ∀ φ, u ≠ .ext φ := by
  cases d with
  | lst ds => obtain ⟨vs, h, t⟩ := h; exact ⟨_, h, (fun _ z => nomatch z), (fun _ z => nomatch z)⟩
  | dK es => obtain ⟨vs, h, t⟩ := h; exact ⟨_, h, (fun _ z => nomatch z), (fun _ z => nomatch z)⟩
  | dT es => obtain ⟨vs, h, t⟩ := h; exact ⟨_, h, (fun _ z => nomatch z), (fun _ z => nomatch z)⟩
  | _ => exact h.elim
/-- at the top read off H, below off F -/
def Top (K : PySem.W.Frag) (F H : Hp) (d : D) (v : V) : Prop := Dv K F d v ∨ ∃ a, v = .ref a ∧ OwnAt K F H a d
theorem Top.mono {F F' H H' : Hp} {d : D} {v : V} (s : Same F F') (e : Kp H H') (h : Top K F H d v) : Top K F' H' d v := by
  rcases h with h | ⟨a, rfl, h⟩
  · exact .inl (h.mono s)
  · exact .inr ⟨a, rfl, h.mono s fun o q n => e.keep _ _ q n⟩

inductive Cell where
  | un
  | frz (d : D)
  | own (d : D)
abbrev Cs := List Cell

def CellOk (K : PySem.W.Frag) (H0 F H : Hp) : Cell → Option (Option V) → Prop
  | .un, _ => True
  | .frz d, o => ∃ v, o = some (some v) ∧ Dv K F d v
  | .own d, o => ∃ a, o = some (some (.ref a)) ∧ OwnAt K F H a d ∧ F a = none ∧ NT H0 a

/-- the state: H0, F0 at the def's entry; ts: changeable objects that a half-done expression holds -/
structure Rs (K : PySem.W.Frag) (H0 F0 : Hp) (ts : List (Addr × D)) (env : Cs) (F : Hp) (σ : L2.St) (H : Hp) : Prop where
  fh : Same F H
  h0 : Kp H0 H
  tb : TabsH H
  nf : NoTb F
  f0 : Same F0 F
  nw : ∀ b, F b ≠ none → F0 b ≠ none ∨ NT H0 b ∨ ∃ xs, F b = some (.tup xs)
  len : env.length = σ.length
  cells : ∀ (i : Nat) (c : Cell), env[i]? = some c → CellOk K H0 F H c σ[i]?
  dj : ∀ (i j : Nat) d d' a, env[i]? = some (.own d) → env[j]? = some (.own d') → σ[i]? = some (some (.ref a)) → σ[j]? = some (some (.ref a)) → i = j
  tmp : ∀ p ∈ ts, OwnAt K F H p.1 p.2 ∧ F p.1 = none ∧ NT H0 p.1
  tnd : (ts.map (·.1)).Nodup
  tdj : ∀ (i : Nat) d a, env[i]? = some (.own d) → σ[i]? = some (some (.ref a)) → a ∉ ts.map (·.1)

/-- the heap grows -/
structure Ext (F H F' H' : Hp) : Prop where
  hh : Kp H H'
  nt : NoTb F → NoTb F'
  ff : Same F F'
  fh : Same F' H'
  nw : ∀ b, F' b ≠ none → F b ≠ none ∨ NT H b ∨ ∃ xs, F' b = some (.tup xs)
theorem NoTb.upd {F : Hp} {p : Addr} {o : HO} (n : NoTb F) (hn : ∀ ps, o ≠ .tbl ps) : NoTb (upd F p o) := fun b ps e => by
  by_cases h : b = p
  · subst h
    rw [upd_same] at e
    exact hn ps (Option.some.inj e)
  · rw [upd_ne h] at e
    exact n b ps e
theorem Ext.refl {F H : Hp} (s : Same F H) : Ext F H F H := ⟨.refl _, id, .refl _, s, fun _ h => .inl h⟩
theorem Ext.trans {F H F1 H1 F2 H2 : Hp} (a : Ext F H F1 H1) (b : Ext F1 H1 F2 H2) : Ext F H F2 H2 :=
  ⟨a.hh.trans b.hh, fun n => b.nt (a.nt n), a.ff.trans b.ff, b.fh, fun c h => by
    rcases b.nw c h with q | q | q
    · rcases a.nw c q with z | z | ⟨xs, z⟩
      · exact .inl z
      · exact .inr (.inl z)
      · exact .inr (.inr ⟨xs, b.ff _ _ z⟩)
    · exact .inr (.inl (a.hh.nt q))
    · exact .inr (.inr q)⟩
theorem Same.upd {H : Hp} {p : Addr} {o : HO} (h : H p = none) : Same H (upd H p o) := fun b x e => by
  rw [upd_ne (ne_of_none e h)]
  exact e
theorem Same.upds {F H : Hp} {p : Addr} {o : HO} (s : Same F H) : Same (L2.upd F p o) (L2.upd H p o) := fun b x e => by
  by_cases h : b = p
  · subst h
    rw [upd_same] at e ⊢
    exact e
  · rw [upd_ne h] at e ⊢
    exact s _ _ e
/-- a new object of the changeable part -/
theorem Ext.tmp {F H : Hp} {p : Addr} {o : HO} (s : Same F H) (h : H p = none) : Ext F H F (upd H p o) :=
  ⟨.of (Same.upd h), id, .refl _, s.trans (Same.upd h), fun _ h => .inl h⟩
/-- a new object of the fixed part -/
theorem Ext.new {F H : Hp} {p : Addr} {o : HO} (s : Same F H) (h : H p = none) (hn : ∀ ps, o ≠ .tbl ps := by intro _ z; cases z) : Ext F H (upd F p o) (upd H p o) :=
  ⟨.of (Same.upd h), fun n => NoTb.upd n hn, Same.upd (s.free h), Same.upds s, fun b q => by
    by_cases e : b = p
    · subst e; exact .inr (.inl (.of h))
    · rw [upd_ne e] at q; exact .inl q⟩
section
variable {H0 F0 : Hp} {ts : List (Addr × D)} {env : Cs} {F F' H H' : Hp} {σ : L2.St}
/-- what is not in F and stood in H is not in F' -/
theorem Ext.out (x : Ext F H F' H') {a : Addr} (h : F a = none) {o : HO} (e : H a = some o) (ne : ∀ xs, o ≠ .tup xs) (nb : ∀ ps, o ≠ .tbl ps) : F' a = none := by
  cases q : F' a with
  | none => rfl
  | some u =>
    rcases x.nw a (by rw [q]; simp) with z | z | ⟨xs, z⟩
    · exact absurd h z
    · obtain ⟨ps, q⟩ := z _ e; exact absurd q (nb ps)
    · have q1 := x.hh.keep _ _ e nb
      have q2 := x.fh _ _ z
      rw [q1] at q2
      exact absurd (Option.some.inj q2) (ne xs)
theorem CellOk.ext (x : Ext F H F' H') {c : Cell} {o : Option (Option V)} (h : CellOk K H0 F H c o) : CellOk K H0 F' H' c o := by
  cases c with
  | un => trivial
  | frz d => obtain ⟨v, e, h⟩ := h; exact ⟨v, e, h.mono x.ff⟩
  | own d =>
    obtain ⟨a, e, h, n, n0⟩ := h
    obtain ⟨u, hu, nt⟩ := h.some
    obtain ⟨u', hu', nb, _⟩ := h.mut
    rw [hu] at hu'
    cases hu'
    exact ⟨a, e, h.mono x.ff fun o q n => x.hh.keep _ _ q n, x.out n hu nt nb, n0⟩
theorem Rs.ext (r : Rs K H0 F0 ts env F σ H) (x : Ext F H F' H') : Rs K H0 F0 ts env F' σ H' where
  fh := x.fh
  h0 := r.h0.trans x.hh
  tb := x.hh.tabs r.tb
  nf := x.nt r.nf
  f0 := r.f0.trans x.ff
  nw := fun b h => by
    rcases x.nw b h with q | q | q
    · rcases r.nw b q with z | z | ⟨xs, z⟩
      · exact .inl z
      · exact .inr (.inl z)
      · exact .inr (.inr ⟨xs, x.ff _ _ z⟩)
    · exact .inr (.inl (r.h0.nt q))
    · exact .inr (.inr q)
  len := r.len
  cells := fun i c e => (r.cells i c e).ext x
  dj := r.dj
  tmp := fun p hp => by
    obtain ⟨h, n, n0⟩ := r.tmp p hp
    obtain ⟨u, hu, nt⟩ := h.some
    obtain ⟨u', hu', nb, _⟩ := h.mut
    rw [hu] at hu'
    cases hu'
    exact ⟨h.mono x.ff fun o q n => x.hh.keep _ _ q n, x.out n hu nt nb, n0⟩
  tnd := r.tnd
  tdj := r.tdj
/-- a new temporary -/
theorem Rs.push (r : Rs K H0 F0 ts env F σ H) {a : Addr} {d : D} (x : Ext F H F' H') (hn : NT H a) (hf : F' a = none) (o : OwnAt K F' H' a d) : Rs K H0 F0 ((a, d) :: ts) env F' σ H' := by
  have r' := r.ext x
  refine { r' with tmp := fun p hp => ?_, tnd := ?_, tdj := fun i d' a' e1 e2 => ?_ }
  · rcases List.mem_cons.mp hp with rfl | hp
    · exact ⟨o, hf, r.h0.nt hn⟩
    · exact r'.tmp p hp
  · rw [List.map_cons, List.nodup_cons]
    refine ⟨fun m => ?_, r.tnd⟩
    obtain ⟨p, hp, e⟩ := List.mem_map.mp m
    obtain ⟨u, hu, nb, _⟩ := (r.tmp p hp).1.mut
    have e : p.1 = a := e
    rw [e] at hu
    obtain ⟨ps, q⟩ := hn u hu
    exact nb ps q
  · rw [List.map_cons, List.mem_cons, not_or]
    refine ⟨fun z => ?_, r.tdj i d' a' e1 e2⟩
    have c := r.cells i _ e1
    obtain ⟨b, e3, o3, _⟩ := c
    rw [e2] at e3
    cases e3
    obtain ⟨u, hu, nb, _⟩ := o3.mut
    have z : a' = a := z
    rw [z] at hu
    obtain ⟨ps, q⟩ := hn u hu
    exact nb ps q
theorem Rs.pop {p : Addr × D} (r : Rs K H0 F0 (p :: ts) env F σ H) : Rs K H0 F0 ts env F σ H :=
  { r with tmp := fun q hq => r.tmp q (List.mem_cons_of_mem _ hq), tnd := (List.nodup_cons.mp r.tnd).2, tdj := fun i d a e1 e2 m => r.tdj i d a e1 e2 (List.mem_cons_of_mem _ m) }
/-- the object at a, held by nothing else, is given to F (lists, dicts told as they are locked) -/
theorem upd_id {H : Hp} {a : Addr} {o : HO} (e : H a = some o) : upd H a o = H := by
  funext b
  unfold upd
  split
  · rename_i h; rw [h, e]
  · rfl
end
end DL

namespace DL
open PySem PySem.Spec PyProof.Rows L2
variable [TabCtx] {K : PySem.W.Frag}
section
variable {H0 F0 : Hp} {ts : List (Addr × D)} {env : Cs} {F F' H H' : Hp} {σ : L2.St}
theorem Rs.give {a : Addr} {d : D} (r : Rs K H0 F0 ((a, d) :: ts) env F σ H) (o : HO) (hn : ∀ ps, o ≠ .tbl ps := by intro _ z; cases z) : Rs K H0 F0 ts env (upd F a o) σ (upd H a o) := by
  obtain ⟨oa, nf, n0⟩ := r.tmp (a, d) List.mem_cons_self
  obtain ⟨u, hu, hu1, hu2⟩ := oa.mut
  have hu : H a = some u := hu
  have nf : F a = none := nf
  have n0 : NT H0 a := n0
  have sF : Same F (upd F a o) := Same.upd nf
  refine ⟨Same.upds r.fh, r.h0.write n0 hu hu1 hu2, tabs_upd r.tb hu hu1 hu2, r.nf.upd hn, r.f0.trans sF, fun b h => ?_, r.len, fun i c e => ?_, r.dj, fun p hp => ?_, (List.nodup_cons.mp r.tnd).2, fun i d a e1 e2 m => r.tdj i d a e1 e2 (List.mem_cons_of_mem _ m)⟩
  · by_cases e : b = a
    · subst e; exact .inr (.inl n0)
    · rw [upd_ne e] at h ⊢; exact r.nw b h
  · have c0 := r.cells i c e
    cases c with
    | un => trivial
    | frz d => obtain ⟨v, e, h⟩ := c0; exact ⟨v, e, h.mono sF⟩
    | own d' =>
      obtain ⟨a', e', h, n, z⟩ := c0
      have ne : a' ≠ a := fun q => r.tdj i d' a' e e' (by rw [q]; exact List.mem_cons_self)
      exact ⟨a', e', h.mono sF fun o q _ => by rw [upd_ne ne]; exact q, by rw [upd_ne ne]; exact n, z⟩
  · obtain ⟨h, n, z⟩ := r.tmp p (List.mem_cons_of_mem _ hp)
    have ne : p.1 ≠ a := fun q => (List.nodup_cons.mp r.tnd).1 (by rw [← q]; exact List.mem_map.mpr ⟨p, hp, rfl⟩)
    exact ⟨h.mono sF fun o q _ => by rw [upd_ne ne]; exact q, by rw [upd_ne ne]; exact n, z⟩
theorem Rs.giveVar {i : Nat} {a : Addr} {d : D} (r : Rs K H0 F0 ts env F σ H) (hi : env[i]? = some (.own d)) (hs : σ[i]? = some (some (.ref a))) (o : HO) (dv : Dv K (upd F a o) d (.ref a)) (hn : ∀ ps, o ≠ .tbl ps := by intro _ z; cases z) :
    Rs K H0 F0 ts (env.set i (.frz d)) (upd F a o) σ (upd H a o) := by
  obtain ⟨a0, e0, oa, nf, n0⟩ := r.cells i _ hi
  rw [hs] at e0
  cases e0
  obtain ⟨u, hu, hu1, hu2⟩ := oa.mut
  have sF : Same F (upd F a o) := Same.upd nf
  have hlt : i < env.length := (List.getElem?_eq_some_iff.mp hi).1
  have old : ∀ {j : Nat} {d' : D}, (env.set i (.frz d))[j]? = some (.own d') → j ≠ i ∧ env[j]? = some (.own d') := fun {j d'} e => by
    by_cases q : j = i
    · subst q
      rw [List.getElem?_set_self hlt] at e
      cases e
    · rw [List.getElem?_set_ne (Ne.symm q)] at e
      exact ⟨q, e⟩
  refine ⟨Same.upds r.fh, r.h0.write n0 hu hu1 hu2, tabs_upd r.tb hu hu1 hu2, r.nf.upd hn, r.f0.trans sF, fun b h => ?_, by simpa using r.len, fun j c e => ?_, fun j k d1 d2 b e1 e2 => r.dj j k d1 d2 b (old e1).2 (old e2).2, fun p hp => ?_, r.tnd, fun j d' b e1 e2 => r.tdj j d' b (old e1).2 e2⟩
  · by_cases e : b = a
    · subst e; exact .inr (.inl n0)
    · rw [upd_ne e] at h ⊢; exact r.nw b h
  · by_cases q : j = i
    · subst q
      rw [List.getElem?_set_self hlt] at e
      cases e
      exact ⟨_, hs, dv⟩
    · rw [List.getElem?_set_ne (Ne.symm q)] at e
      have c0 := r.cells j c e
      cases c with
      | un => trivial
      | frz d => obtain ⟨v, e, h⟩ := c0; exact ⟨v, e, h.mono sF⟩
      | own d' =>
        obtain ⟨a', e', h, n, z⟩ := c0
        have ne : a' ≠ a := fun z => q (r.dj j i d' d a e hi (by rw [← z]; exact e') hs)
        exact ⟨a', e', h.mono sF fun o q _ => by rw [upd_ne ne]; exact q, by rw [upd_ne ne]; exact n, z⟩
  · obtain ⟨h, n, z⟩ := r.tmp p hp
    have ne : p.1 ≠ a := fun q => r.tdj i d a hi hs (by rw [← q]; exact List.mem_map.mpr ⟨p, hp, rfl⟩)
    exact ⟨h.mono sF fun o q _ => by rw [upd_ne ne]; exact q, by rw [upd_ne ne]; exact n, z⟩
end

/-! ### the heap's own view may lock what is changeable -/
inductive Gh (Q : Hp → Prop) : Hp → Prop
  | done {H : Hp} : Q H → Gh Q H
  | lock {H : Hp} {d : Addr} {u : HO} : H d = some u → Mut (some u) → (∀ od, Gh Q (upd H d (.frz od u))) → Gh Q H
theorem Gh.run {X : Cx} {pins : List (Addr × Obj)} {σ : L2.St} {s : Shared} {Q : Hp → Prop} {H : Hp} (g : Gh Q H) : Inv X pins σ H s → ∃ H', Inv X pins σ H' s ∧ Q H' := by
  induction g with
  | done h => intro I; exact ⟨_, I, h⟩
  | lock h m _ ih =>
    intro I
    obtain ⟨od, I'⟩ := I.lock h m
    exact ih od I'
theorem Gh.imp {Q Q' : Hp → Prop} {H : Hp} (g : Gh Q H) (h : ∀ H, Q H → Q' H) : Gh Q' H := by
  induction g with
  | done q => exact .done (h _ q)
  | lock e m _ ih => exact .lock e m ih
theorem Gh.bind {Q Q' : Hp → Prop} {H : Hp} (g : Gh Q H) (h : ∀ H, Q H → Gh Q' H) : Gh Q' H := by
  induction g with
  | done q => exact h _ q
  | lock e m _ ih => exact .lock e m ih

/-! ### what a piece of the text comes to -/
inductive Out (α : Type) where
  | stuck
  | exc (c : Str)
  | ok (x : α) (env : Cs)
def Out.bind {α β : Type} : Out α → (α → Cs → Out β) → Out β
  | .stuck, _ => .stuck
  | .exc c, _ => .exc c
  | .ok x env, f => f x env
inductive RV where
  | frz (d : D)
  | tmp (d : D)
  | loc (i : Nat)
def valOf (env : Cs) : RV → Option D
  | .frz d => some d
  | .tmp d => some d
  | .loc i => match env[i]? with
    | some (.own d) => some d
    | some (.frz d) => some d
    | _ => none
def settle (env : Cs) : RV → Out D
  | .frz d => .ok d env
  | .tmp d => .ok d env
  | .loc i => match env[i]? with
    | some (.own d) => .ok d (env.set i (.frz d))
    | some (.frz d) => .ok d env
    | _ => .stuck
def tsOf (ts : List (Addr × D)) : RV → V → List (Addr × D)
  | .tmp d, .ref a => (a, d) :: ts
  | _, _ => ts
def Held (K : PySem.W.Frag) (ts : List (Addr × D)) (F : Hp) (σ : L2.St) : RV → V → Prop
  | .frz d, v => Dv K F d v
  | .tmp d, v => ∃ a, v = .ref a ∧ (a, d) ∈ ts
  | .loc i, v => σ[i]? = some (some v)
section
variable {H0 F0 : Hp} {ts ts' : List (Addr × D)} {env : Cs} {F F' H H' : Hp} {σ : L2.St} {r : RV} {v : V} {d : D}
theorem Rs.untmp (h : Rs K H0 F0 (tsOf ts r v) env F σ H) : Rs K H0 F0 ts env F σ H := by
  cases r with
  | tmp d => cases v <;> first | exact h.pop | exact h
  | _ => exact h
theorem Held.mono (s : Same F F') (m : ∀ p ∈ ts, p ∈ ts') (h : Held K ts F σ r v) : Held K ts' F' σ r v := by
  cases r with
  | frz d => exact Dv.mono s h
  | tmp d => obtain ⟨a, e, q⟩ := h; exact ⟨a, e, m _ q⟩
  | loc i => exact h
theorem tsOf_mem {p : Addr × D} (h : p ∈ ts) : p ∈ tsOf ts r v := by
  cases r with
  | tmp d => cases v <;> first | exact List.mem_cons_of_mem _ h | exact h
  | _ => exact h
theorem Held.top (R : Rs K H0 F0 ts env F σ H) (h : Held K ts F σ r v) (e : valOf env r = some d) : Top K F H d v := by
  cases r with
  | frz d' => cases e; exact .inl h
  | tmp d' =>
    cases e
    obtain ⟨a, e, q⟩ := h
    exact .inr ⟨a, e, (R.tmp _ q).1⟩
  | loc i =>
    dsimp only [valOf] at e
    split at e
    · rename_i d' hi
      cases e
      obtain ⟨a, e1, o, _⟩ := R.cells i _ hi
      have h : σ[i]? = some (some v) := h
      rw [h] at e1
      cases e1
      exact .inr ⟨a, rfl, o⟩
    · rename_i d' hi
      cases e
      obtain ⟨v', e1, o⟩ := R.cells i _ hi
      have h : σ[i]? = some (some v) := h
      rw [h] at e1
      cases e1
      exact .inl o
    · cases e
/-- what is held is given to the fixed part -/
theorem Held.settle {env' : Cs} (R : Rs K H0 F0 (tsOf ts r v) env F σ H) (h : Held K (tsOf ts r v) F σ r v) (e : settle env r = .ok d env') :
    Gh (fun H' => ∃ F', Same F F' ∧ Rs K H0 F0 ts env' F' σ H' ∧ Dv K F' d v) H := by
  cases r with
  | frz d' => cases e; exact .done ⟨F, .refl _, R, h⟩
  | tmp d' =>
    cases e
    obtain ⟨a, rfl, q⟩ := h
    have R : Rs K H0 F0 ((a, d) :: ts) env F σ H := R
    obtain ⟨o, nf, _⟩ := R.tmp (a, d) List.mem_cons_self
    have nf : F a = none := nf
    have o : OwnAt K F H a d := o
    cases d with
    | lst ds =>
      obtain ⟨vs, e, t⟩ := o
      refine .done ⟨upd F a (.lst vs), Same.upd nf, ?_, a, vs, rfl, upd_same, t.mono (Same.upd nf)⟩
      have := R.give (.lst vs)
      rwa [upd_id e] at this
    | dK es =>
      obtain ⟨kvs, e, t⟩ := o
      exact .lock e trivial fun od => .done ⟨upd F a (.frz od (.dK kvs)), Same.upd nf, R.give _, a, od, kvs, rfl, upd_same, t.mono (Same.upd nf)⟩
    | dT es =>
      obtain ⟨kvs, e, t⟩ := o
      exact .lock e trivial fun od => .done ⟨upd F a (.frz od (.dT kvs)), Same.upd nf, R.give _, a, od, kvs, rfl, upd_same, t.mono (Same.upd nf)⟩
    | _ => exact o.elim
  | loc i =>
    have h : σ[i]? = some (some v) := h
    have R : Rs K H0 F0 ts env F σ H := R
    dsimp only [DL.settle] at e
    split at e
    · rename_i d' hi
      cases e
      obtain ⟨a, e1, o, nf, _⟩ := R.cells i _ hi
      rw [h] at e1
      cases e1
      cases d with
      | lst ds =>
        obtain ⟨vs, e, t⟩ := o
        have dv : Dv K (upd F a (.lst vs)) (.lst ds) (.ref a) := ⟨a, vs, rfl, upd_same, t.mono (Same.upd nf)⟩
        refine .done ⟨upd F a (.lst vs), Same.upd nf, ?_, dv⟩
        have := R.giveVar hi h (.lst vs) dv
        rwa [upd_id e] at this
      | dK es =>
        obtain ⟨kvs, e, t⟩ := o
        refine .lock e trivial fun od => ?_
        have dv : Dv K (upd F a (.frz od (.dK kvs))) (.dK es) (.ref a) := ⟨a, od, kvs, rfl, upd_same, t.mono (Same.upd nf)⟩
        exact .done ⟨_, Same.upd nf, R.giveVar hi h _ dv, dv⟩
      | dT es =>
        obtain ⟨kvs, e, t⟩ := o
        refine .lock e trivial fun od => ?_
        have dv : Dv K (upd F a (.frz od (.dT kvs))) (.dT es) (.ref a) := ⟨a, od, kvs, rfl, upd_same, t.mono (Same.upd nf)⟩
        exact .done ⟨_, Same.upd nf, R.giveVar hi h _ dv, dv⟩
      | _ => exact o.elim
    · rename_i d' hi
      cases e
      obtain ⟨v', e1, o⟩ := R.cells i _ hi
      rw [h] at e1
      cases e1
      exact .done ⟨F, .refl _, R, o⟩
    · cases e
end

/-! ### judgements -/
/-- a thing that reckoning does not open -/
@[irreducible] def Bx (p : Prop) : Prop := p
theorem Bx.mk {p : Prop} (h : p) : Bx p := by unfold Bx; exact h
theorem Bx.out {p : Prop} (h : Bx p) : p := by unfold Bx at h; exact h
def eS (X : Cx) (e : Expr) : TE := fun σ H Q => Bx (∀ (pins : List (Addr × Obj)) (s : Shared), Inv X pins σ H s → wpAny (model X.prog X.w) X.A (eval e X.env) (EP X pins σ Q) X.xe s)
theorem pe_sem {X : Cx} {e : Expr} : PE X e (eS X e) := ⟨fun pins s _ _ _ I h => h.out pins s I⟩
theorem PE.sem {X : Cx} {e : Expr} {t : TE} (h : PE X e t) {σ : L2.St} {H : Hp} {Q : VK} (q : t σ H Q) : eS X e σ H Q := .mk fun pins s I => h.run pins s σ H Q I q
theorem eS.gh {X : Cx} {e : Expr} {σ : L2.St} {H : Hp} {Q : VK} (h : eS X e σ H fun v H' => Gh (Q v) H') : eS X e σ H Q := .mk fun pins s I =>
  thn (h.out pins s I) fun u s' ⟨v, H', I', rv, g⟩ => by
    obtain ⟨H2, I2, q⟩ := g.run I'
    exact ⟨v, H2, I2, rv, q⟩
theorem eS.imp {X : Cx} {e : Expr} {σ : L2.St} {H : Hp} {Q Q' : VK} (h : eS X e σ H Q) (i : ∀ v H', Q v H' → Q' v H') : eS X e σ H Q' := .mk fun pins s I =>
  thn (h.out pins s I) fun u s' ⟨v, H', I', rv, g⟩ => ⟨v, H', I', rv, i _ _ g⟩

/-- what is wished of an exception, by its class's name -/
abbrev WN := Str → Hp → Prop
def PoE (K : PySem.W.Frag) (W : WN) (H0 F0 : Hp) (ts : List (Addr × D)) (F : Hp) (σ : L2.St) (Q : VK) : Out RV → Prop
  | .stuck => False
  | .exc c => ∀ H', Kp H0 H' → W c H'
  | .ok r env => ∀ v F' H', Rs K H0 F0 (tsOf ts r v) env F' σ H' → Held K (tsOf ts r v) F' σ r v → Same F F' → Q v H'
/-- an expression -/
def DE (X : Cx) (W : WN) (e : Expr) (g : Cs → Out RV) : Prop := ∀ (H0 F0 : Hp) (ts : List (Addr × D)) (env : Cs) (F : Hp) (σ : L2.St) (H : Hp) (Q : VK),
  Rs X.K H0 F0 ts env F σ H → PoE X.K W H0 F0 ts F σ Q (g env) → eS X e σ H Q
def PoF (K : PySem.W.Frag) (W : WN) (H0 F0 : Hp) (ts : List (Addr × D)) (F : Hp) (σ : L2.St) (Q : VK) : Out D → Prop
  | .stuck => False
  | .exc c => ∀ H', Kp H0 H' → W c H'
  | .ok d env => ∀ v F' H', Rs K H0 F0 ts env F' σ H' → Dv K F' d v → Same F F' → Q v H'
/-- an expression whose value is given away -/
def DF (X : Cx) (W : WN) (e : Expr) (g : Cs → Out D) : Prop := ∀ (H0 F0 : Hp) (ts : List (Addr × D)) (env : Cs) (F : Hp) (σ : L2.St) (H : Hp) (Q : VK),
  Rs X.K H0 F0 ts env F σ H → PoF X.K W H0 F0 ts F σ Q (g env) → eS X e σ H Q
def PoP (K : PySem.W.Frag) (W : WN) (H0 F0 : Hp) (ts : List (Addr × D)) (F : Hp) (σ : L2.St) (Q : VK) : Out D → Prop
  | .stuck => False
  | .exc c => ∀ H', Kp H0 H' → W c H'
  | .ok d env => ∀ v F' H', Rs K H0 F0 ts env F' σ H' → Top K F' H' d v → Same F F' → Q v H'
/-- an expression whose value is looked at -/
def DP (X : Cx) (W : WN) (e : Expr) (g : Cs → Out D) : Prop := ∀ (H0 F0 : Hp) (ts : List (Addr × D)) (env : Cs) (F : Hp) (σ : L2.St) (H : Hp) (Q : VK),
  Rs X.K H0 F0 ts env F σ H → PoP X.K W H0 F0 ts F σ Q (g env) → eS X e σ H Q
end DL

namespace DL
open PySem PySem.Spec PyProof.Rows L2
variable [TabCtx] {K : PySem.W.Frag} {X : Cx} {W : WN}

/-! ### from one judgement to another -/
def gSet (g : Cs → Out RV) : Cs → Out D := fun env => (g env).bind fun r env1 => settle env1 r
def gPk (g : Cs → Out RV) : Cs → Out D := fun env => (g env).bind fun r env1 => match valOf env1 r with
  | some d => .ok d env1
  | none => .stuck
def gFz (g : Cs → Out D) : Cs → Out RV := fun env => (g env).bind fun d env1 => .ok (.frz d) env1
theorem DE.df {e : Expr} {g : Cs → Out RV} (h : DE X W e g) : DF X W e (gSet g) := by
  intro H0 F0 ts env F σ H Q R p
  refine (h H0 F0 ts env F σ H (fun v H' => Gh (Q v) H') R ?_).gh
  unfold gSet at p
  cases q : g env with
  | stuck => rw [q] at p; exact p.elim
  | exc c => rw [q] at p; exact p
  | ok r env1 =>
    rw [q] at p
    have p : PoF X.K W H0 F0 ts F σ Q (settle env1 r) := p
    intro v F' H' R' hd s
    cases z : settle env1 r with
    | stuck => rw [z] at p; exact p.elim
    | exc c => cases r with
      | loc i => dsimp only [settle] at z; split at z <;> cases z
      | _ => cases z
    | ok d env2 =>
      rw [z] at p
      refine (Held.settle R' hd z).imp fun H2 ⟨F2, s2, R2, dv⟩ => ?_
      exact p v F2 H2 R2 dv (s.trans s2)
theorem DE.dp {e : Expr} {g : Cs → Out RV} (h : DE X W e g) : DP X W e (gPk g) := by
  intro H0 F0 ts env F σ H Q R p
  refine h H0 F0 ts env F σ H Q R ?_
  unfold gPk at p
  cases q : g env with
  | stuck => rw [q] at p; exact p.elim
  | exc c => rw [q] at p; exact p
  | ok r env1 =>
    rw [q] at p
    intro v F' H' R' hd s
    have p : PoP X.K W H0 F0 ts F σ Q (match valOf env1 r with | some d => .ok d env1 | none => .stuck) := p
    cases z : valOf env1 r with
    | none => rw [z] at p; exact p.elim
    | some d =>
      rw [z] at p
      exact p v F' H' R'.untmp (hd.top R' z) s
theorem DF.de {e : Expr} {g : Cs → Out D} (h : DF X W e g) : DE X W e (gFz g) := by
  intro H0 F0 ts env F σ H Q R p
  refine h H0 F0 ts env F σ H Q R ?_
  unfold gFz at p
  cases q : g env with
  | stuck => rw [q] at p; exact p.elim
  | exc c => rw [q] at p; exact p
  | ok d env1 =>
    rw [q] at p
    intro v F' H' R' hd s
    exact p v F' H' R' hd s

/-! ### constants and names -/
def gC (d : D) : Cs → Out RV := fun env => .ok (.frz d) env
theorem de_pe {e : Expr} {v : V} {d : D} (h : PE X e (tC v)) (hd : ∀ F, Dv X.K F d v) : DE X W e (gC d) := fun H0 F0 ts env F σ H Q R p =>
  PE.sem h (p v F H R (hd F) (.refl _))
theorem de_int {i : Int} {j : Nat} {pos : Pos} : DE X W (.Constant (.int i) j pos) (gC (.int i)) := de_pe pe_int fun _ => rfl
theorem de_str {s : Str} {j : Nat} {pos : Pos} : DE X W (.Constant (.str s) j pos) (gC (.str s)) := de_pe pe_str fun _ => rfl
theorem de_bl {b : Bool} {j : Nat} {pos : Pos} : DE X W (.Constant (.bool b) j pos) (gC (.bl b)) := de_pe pe_bl fun _ => rfl
theorem de_non {j : Nat} {pos : Pos} : DE X W (.Constant .none j pos) (gC .non) := de_pe pe_non fun _ => rfl
theorem de_gint {x : Str} {i : Int} {pos : Pos} (hg : Gl X x) (hm : ∃ t, X.mg x = some (.int i t)) (hd : (x == ("__debug__" : Str)) = false := by decide) : DE X W (.Name x pos) (gC (.int i)) := by
  obtain ⟨t, hm⟩ := hm
  exact de_pe (v := .int i) (pe_glob hg hm ⟨t, rfl⟩ hd) fun _ => rfl
theorem de_gstr {x s : Str} {pos : Pos} (hg : Gl X x) (hm : ∃ t, X.mg x = some (.str s t)) (hd : (x == ("__debug__" : Str)) = false := by decide) : DE X W (.Name x pos) (gC (.str s)) := by
  obtain ⟨t, hm⟩ := hm
  exact de_pe (v := .str s) (pe_glob hg hm ⟨t, rfl⟩ hd) fun _ => rfl
def gV (i : Nat) : Cs → Out RV := fun env => match env[i]? with
  | some (.frz d) => .ok (.frz d) env
  | some (.own _) => .ok (.loc i) env
  | _ => .stuck
theorem de_var (i : Nat) {x : Str} {pos : Pos} (hN : X.N[i]? = some x) (hv : Vis X.env.scope x) (hd : (x == ("__debug__" : Str)) = false := by decide) (hcd : (x == ("__classdict__" : Str)) = false := by decide) :
    DE X W (.Name x pos) (gV i) := by
  intro H0 F0 ts env F σ H Q R p
  refine PE.sem (pe_var hN hv hd hcd) ?_
  unfold gV at p
  split at p
  · rename_i d e
    obtain ⟨v, e1, dv⟩ := R.cells i _ e
    exact ⟨v, e1, p v F H R dv (.refl _)⟩
  · rename_i d e
    obtain ⟨a, e1, _⟩ := R.cells i _ e
    exact ⟨.ref a, e1, p (.ref a) F H R e1 (.refl _)⟩
  · exact p.elim

/-! ### operations by values -/
inductive Rn where
  | f (d : D)
  | t (d : D)
def outR (env : Cs) : Option Rn → Out RV
  | none => .stuck
  | some (.f d) => .ok (.frz d) env
  | some (.t d) => .ok (.tmp d) env
def PV (K : PySem.W.Frag) (F H : Hp) (Q : VK) : Option Rn → Prop
  | none => False
  | some (.f d) => ∀ v F' H', Ext F H F' H' → Dv K F' d v → Q v H'
  | some (.t d) => ∀ a F' H', Ext F H F' H' → NT H a → F' a = none → OwnAt K F' H' a d → Q (.ref a) H'
theorem PV.of {H0 F0 : Hp} {ts : List (Addr × D)} {env : Cs} {F1 F H : Hp} {σ : L2.St} {Q : VK} {res : Option Rn} (R : Rs K H0 F0 ts env F σ H) (s : Same F1 F) (p : PoE K W H0 F0 ts F1 σ Q (outR env res)) : PV K F H Q res := by
  cases res with
  | none => exact p
  | some z =>
    cases z with
    | f d =>
      intro v F' H' x dv
      exact p v F' H' (R.ext x) dv (s.trans x.ff)
    | t d =>
      intro a F' H' x hn hf o
      exact p (.ref a) F' H' (R.push x hn hf o) ⟨a, rfl, List.mem_cons_self⟩ (s.trans x.ff)
def V1 (K : PySem.W.Frag) (r : V → Hp → VK → Prop) (s : D → Option Rn) : Prop := ∀ (F H : Hp) (d : D) (v : V) (Q : VK), Same F H → Top K F H d v → PV K F H Q (s d) → r v H Q
def V2 (K : PySem.W.Frag) (r : R2) (s : D → D → Option Rn) : Prop := ∀ (F H : Hp) (d e : D) (v u : V) (Q : VK), Same F H → Top K F H d v → Top K F H e u → PV K F H Q (s d e) → r v u H Q
def g1 (s : D → Option Rn) (ga : Cs → Out RV) : Cs → Out RV := fun env => (ga env).bind fun r env1 => match valOf env1 r with
  | some d => outR env1 (s d)
  | none => .stuck
def g2 (s : D → D → Option Rn) (ga gb : Cs → Out RV) : Cs → Out RV := fun env => (ga env).bind fun r1 env1 => (gb env1).bind fun r2 env2 => match valOf env2 r1, valOf env2 r2 with
  | some d, some e => outR env2 (s d e)
  | _, _ => .stuck
theorem one_ok {a : Expr} {ga : Cs → Out RV} {r : V → Hp → VK → Prop} {s : D → Option Rn} (h : V1 X.K r s) (ha : DE X W a ga) {H0 F0 : Hp} {ts : List (Addr × D)} {env : Cs} {F : Hp} {σ : L2.St} {H : Hp} {Q : VK}
    (R : Rs X.K H0 F0 ts env F σ H) (p : PoE X.K W H0 F0 ts F σ Q (g1 s ga env)) : eS X a σ H (fun x H1 => r x H1 Q) := by
  refine ha H0 F0 ts env F σ H _ R ?_
  unfold g1 at p
  cases q : ga env with
  | stuck => rw [q] at p; exact p.elim
  | exc c => rw [q] at p; exact p
  | ok r1 env1 =>
    rw [q] at p
    intro v F1 H1 R1 h1 s1
    dsimp only [Out.bind] at p
    split at p
    · rename_i d e
      exact h F1 H1 d v Q R1.fh (h1.top R1 e) (PV.of R1.untmp s1 p)
    · exact p.elim
theorem two_ok {a b : Expr} {ga gb : Cs → Out RV} {r : R2} {s : D → D → Option Rn} (h : V2 X.K r s) (ha : DE X W a ga) (hb : DE X W b gb) {H0 F0 : Hp} {ts : List (Addr × D)} {env : Cs} {F : Hp} {σ : L2.St} {H : Hp} {Q : VK}
    (R : Rs X.K H0 F0 ts env F σ H) (p : PoE X.K W H0 F0 ts F σ Q (g2 s ga gb env)) : tOp r (eS X a) (eS X b) σ H Q := by
  refine ha H0 F0 ts env F σ H _ R ?_
  unfold g2 at p
  cases q : ga env with
  | stuck => rw [q] at p; exact p.elim
  | exc c => rw [q] at p; exact p
  | ok r1 env1 =>
    rw [q] at p
    intro v F1 H1 R1 h1 s1
    dsimp only [Out.bind] at p
    refine hb H0 F0 _ env1 F1 σ H1 _ R1 ?_
    cases q2 : gb env1 with
    | stuck => rw [q2] at p; exact p.elim
    | exc c => rw [q2] at p; exact p
    | ok r2 env2 =>
      rw [q2] at p
      intro u F2 H2 R2 h2 s2
      dsimp only at p
      split at p
      · rename_i d e e1 e2
        have h1' : Held X.K (tsOf (tsOf ts r1 v) r2 u) F2 σ r1 v := h1.mono s2 fun _ => tsOf_mem
        exact h F2 H2 d e v u Q R2.fh (h1'.top R2 e1) (h2.top R2 e2) (PV.of R2.untmp.untmp (s1.trans s2) p)
      · exact p.elim
theorem OpR.or {f : Value → Value → Sem Value} {r r' : R2} (h : OpR X f r) (h' : OpR X f r') : OpR X f (fun x y H Q => r x y H Q ∨ r' x y H Q) := by
  intro pins s σ H x y v u Q I rx ry q
  rcases q with q | q
  · exact h pins s σ H x y v u Q I rx ry q
  · exact h' pins s σ H x y v u Q I rx ry q
theorem de_op {op : Operator} {r : R2} {s : D → D → Option Rn} {a b : Expr} {ga gb : Cs → Out RV} {pos : Pos} (ho : OpR X (binaryOp op) r) (h : V2 X.K r s) (ha : DE X W a ga) (hb : DE X W b gb) : DE X W (.BinOp a op b pos) (g2 s ga gb) :=
  fun H0 F0 ts env F σ H Q R p => PE.sem (pe_op ho pe_sem pe_sem) (two_ok h ha hb R p)
theorem de_cmp {op : CmpOp} {r : R2} {s : D → D → Option Rn} {a b : Expr} {ga gb : Cs → Out RV} {pos : Pos} (ho : OpR X (compareOp op) r) (h : V2 X.K r s) (ha : DE X W a ga) (hb : DE X W b gb) (hm : behindInMarks op b = false) : DE X W (.Compare a [op] [b] pos) (g2 s ga gb) :=
  fun H0 F0 ts env F σ H Q R p => PE.sem (pe_cmpR ho pe_sem pe_sem hm) (two_ok h ha hb R p)
theorem de_un {op : UnaryOp} {r : V → Hp → VK → Prop} {s : D → Option Rn} {a : Expr} {ga : Cs → Out RV} {pos : Pos} (ho : UnR X (unaryOp op) r) (h : V1 X.K r s) (ha : DE X W a ga) : DE X W (.UnaryOp op a pos) (g1 s ga) :=
  fun H0 F0 ts env F σ H Q R p => PE.sem (pe_un ho pe_sem) (one_ok h ha R p)
theorem de_ixR {r : R2} {s : D → D → Option Rn} {a b : Expr} {ga gb : Cs → Out RV} {pos : Pos} (ho : IxR X r) (h : V2 X.K r s) (ha : DE X W a ga) (hb : DE X W b gb) (hs : PlainIx b) : DE X W (.Subscript a b pos) (g2 s ga gb) :=
  fun H0 F0 ts env F σ H Q R p => PE.sem (pe_ix ho pe_sem pe_sem hs) (two_ok h ha hb R p)
/-- a built-in function of one argument -/
theorem de_b1 {id : String} {x : Str} {r : List V → Hp → VK → Prop} {s : D → Option Rn} {a : Expr} {ga : Cs → Out RV} {p0 pos : Pos} (hc : CallR X (.builtin id) r) (h : V1 X.K (fun v H Q => r [v] H Q) s) (hg : Gl X x) (hm : X.mg x = none) (hv : bootBuiltins x = some (.builtin id)) (ha : DE X W a ga)
    (hn : x ≠ "__name__" := by decide) (hdb : (x == ("__debug__" : Str)) = false := by decide) (he : starEach [a] X.env = (false, eval a X.env) :: starEach [] X.env := by rfl) : DE X W (.Call (.Name x p0) [a] [] pos) (g1 s ga) :=
  fun H0 F0 ts env F σ H Q R p => PE.sem (pe_callB (t := tCons (eS X a) tNil) hc hg hm hv (pa_cons pe_sem pa_nil he) hn hdb he) (one_ok h ha R p)
theorem de_t1 {T : String} {x : Str} {r : List V → Hp → VK → Prop} {s : D → Option Rn} {a : Expr} {ga : Cs → Out RV} {p0 pos : Pos} (hc : CallR X (.type T) r) (h : V1 X.K (fun v H Q => r [v] H Q) s) (hg : Gl X x) (hm : X.mg x = none) (hv : bootBuiltins x = some (.type T)) (ha : DE X W a ga)
    (hn : x ≠ "__name__" := by decide) (hdb : (x == ("__debug__" : Str)) = false := by decide) (he : starEach [a] X.env = (false, eval a X.env) :: starEach [] X.env := by rfl) : DE X W (.Call (.Name x p0) [a] [] pos) (g1 s ga) :=
  fun H0 F0 ts env F σ H Q R p => PE.sem (pe_callTy (t := tCons (eS X a) tNil) hc hg hm hv (pa_cons pe_sem pa_nil he) hn hdb he) (one_ok h ha R p)
/-- a built-in function of two arguments -/
theorem de_b2 {id : String} {x : Str} {r : List V → Hp → VK → Prop} {s : D → D → Option Rn} {a b : Expr} {ga gb : Cs → Out RV} {p0 pos : Pos} (hc : CallR X (.builtin id) r) (h : V2 X.K (fun v u H Q => r [v, u] H Q) s) (hg : Gl X x) (hm : X.mg x = none) (hv : bootBuiltins x = some (.builtin id)) (ha : DE X W a ga) (hb : DE X W b gb)
    (hn : x ≠ "__name__" := by decide) (hdb : (x == ("__debug__" : Str)) = false := by decide) (he : starEach [a, b] X.env = (false, eval a X.env) :: starEach [b] X.env := by rfl) (he2 : starEach [b] X.env = (false, eval b X.env) :: starEach [] X.env := by rfl)
    (hpl : (backTo pos (starEach [b] X.env)).any (·.1) = false := by rfl) : DE X W (.Call (.Name x p0) [a, b] [] pos) (g2 s ga gb) :=
  fun H0 F0 ts env F σ H Q R p => PE.sem (pe_callB (t := tCons (eS X a) (tCons (eS X b) tNil)) hc hg hm hv (pa_cons pe_sem (pa_cons pe_sem pa_nil he2) he) hn hdb he hpl) (two_ok h ha hb R p)

/-! ### argument lists, displays -/
def aS (X : Cx) (es : List Expr) : TA := fun σ H Q => Bx (∀ (pos : Pos) (pins : List (Addr × Obj)) (s : Shared), Inv X pins σ H s → wpAny (model X.prog X.w) X.A (spliced (backTo pos (starEach es X.env))) (AP X pins σ Q) X.xe s)
theorem pa_sem {es : List Expr} : PA X es (aS X es) := ⟨fun pos pins s _ _ _ I h => h.out pos pins s I⟩
theorem PA.sem {es : List Expr} {t : TA} (h : PA X es t) {σ : L2.St} {H : Hp} {Q : List V → Hp → Prop} (q : t σ H Q) : aS X es σ H Q := .mk fun pos pins s I => h.run pos pins s σ H Q I q
def PoA (K : PySem.W.Frag) (W : WN) (H0 F0 : Hp) (ts : List (Addr × D)) (F : Hp) (σ : L2.St) (Q : List V → Hp → Prop) : Out (List D) → Prop
  | .stuck => False
  | .exc c => ∀ H', Kp H0 H' → W c H'
  | .ok ds env => ∀ vs F' H', Rs K H0 F0 ts env F' σ H' → DvL K F' ds vs → Same F F' → Q vs H'
def DA (X : Cx) (W : WN) (es : List Expr) (g : Cs → Out (List D)) : Prop := ∀ (H0 F0 : Hp) (ts : List (Addr × D)) (env : Cs) (F : Hp) (σ : L2.St) (H : Hp) (Q : List V → Hp → Prop),
  Rs X.K H0 F0 ts env F σ H → PoA X.K W H0 F0 ts F σ Q (g env) → aS X es σ H Q
def gaN : Cs → Out (List D) := fun env => .ok [] env
def gaC (g : Cs → Out D) (gs : Cs → Out (List D)) : Cs → Out (List D) := fun env => (g env).bind fun d env1 => (gs env1).bind fun ds env2 => .ok (d :: ds) env2
theorem da_nil : DA X W [] gaN := fun H0 F0 ts env F σ H Q R p => PA.sem pa_nil (p [] F H R rfl (.refl _))
theorem da_cons {e : Expr} {es : List Expr} {g : Cs → Out D} {gs : Cs → Out (List D)} (he : DF X W e g) (hs : DA X W es gs) (h : starEach (e :: es) X.env = (false, eval e X.env) :: starEach es X.env := by rfl) : DA X W (e :: es) (gaC g gs) := by
  intro H0 F0 ts env F σ H Q R p
  refine PA.sem (pa_cons pe_sem pa_sem h) (he H0 F0 ts env F σ H _ R ?_)
  unfold gaC at p
  cases q : g env with
  | stuck => rw [q] at p; exact p.elim
  | exc c => rw [q] at p; exact p
  | ok d env1 =>
    rw [q] at p
    intro v F1 H1 R1 h1 s1
    dsimp only [Out.bind] at p
    refine hs H0 F0 ts env1 F1 σ H1 _ R1 ?_
    cases q2 : gs env1 with
    | stuck => rw [q2] at p; exact p.elim
    | exc c => rw [q2] at p; exact p
    | ok ds env2 =>
      rw [q2] at p
      intro vs F2 H2 R2 h2 s2
      exact p (v :: vs) F2 H2 R2 ⟨v, vs, rfl, h1.mono s2, h2⟩ (s1.trans s2)
theorem DvL.length {F : Hp} : ∀ {ds : List D} {vs : List V}, DvL K F ds vs → vs.length = ds.length
  | [], _, h => by cases h; rfl
  | _ :: _, _, ⟨_, _, e, _, t⟩ => by subst e; simp [DvL.length t]
def lineN : Nat := 1000
theorem lineN_le {n : Nat} (h : n ≤ lineN) : n ≤ sizeLine := Nat.le_trans h (by decide)
def gTp (gs : Cs → Out (List D)) : Cs → Out RV := fun env => (gs env).bind fun ds env1 => if ds.length ≤ lineN then .ok (.frz (.tup ds)) env1 else .stuck
def gLs (gs : Cs → Out (List D)) : Cs → Out RV := fun env => (gs env).bind fun ds env1 => if ds.length ≤ lineN then .ok (.tmp (.lst ds)) env1 else .stuck
theorem de_tup {es : List Expr} {k : Nat} {pos : Pos} {gs : Cs → Out (List D)} (hs : DA X W es gs) : DE X W (.Tuple es k pos) (gTp gs) := by
  intro H0 F0 ts env F σ H Q R p
  refine PE.sem (pe_tup pa_sem) (hs H0 F0 ts env F σ H _ R ?_)
  unfold gTp at p
  cases q : gs env with
  | stuck => rw [q] at p; exact p.elim
  | exc c => rw [q] at p; exact p
  | ok ds env1 =>
    rw [q] at p
    intro vs F1 H1 R1 h1 s1
    dsimp only [Out.bind] at p
    split at p
    · rename_i hl
      refine ⟨lineN_le (by rw [h1.length]; exact hl), fun a ha => ?_⟩
      have x : Ext F1 H1 (upd F1 a (.tup vs)) (upd H1 a (.tup vs)) := Ext.new R1.fh ha
      exact p (.ref a) _ _ (R1.ext x) ⟨a, vs, rfl, upd_same, h1.mono x.ff⟩ (s1.trans x.ff)
    · exact p.elim
theorem de_lst {es : List Expr} {pos : Pos} {gs : Cs → Out (List D)} (hs : DA X W es gs) : DE X W (.List es pos) (gLs gs) := by
  intro H0 F0 ts env F σ H Q R p
  refine PE.sem (pe_lst pa_sem) (hs H0 F0 ts env F σ H _ R ?_)
  unfold gLs at p
  cases q : gs env with
  | stuck => rw [q] at p; exact p.elim
  | exc c => rw [q] at p; exact p
  | ok ds env1 =>
    rw [q] at p
    intro vs F1 H1 R1 h1 s1
    dsimp only [Out.bind] at p
    split at p
    · rename_i hl
      refine ⟨lineN_le (by rw [h1.length]; exact hl), fun a ha => ?_⟩
      have x : Ext F1 H1 F1 (upd H1 a (.lst vs)) := Ext.tmp R1.fh ha
      exact p (.ref a) _ _ (R1.push x (.of ha) (R1.fh.free ha) ⟨vs, upd_same, h1⟩) ⟨a, rfl, List.mem_cons_self⟩ (s1.trans x.ff)
    · exact p.elim
def gDn (d : D) : Cs → Out RV := fun env => .ok (.tmp d) env
theorem de_dK {pos : Pos} : DE X W (.Dict [] [] pos) (gDn (.dK [])) := fun H0 F0 ts env F σ H Q R p =>
  PE.sem pe_dnewK fun a ha => p (.ref a) F _ (R.push (Ext.tmp R.fh ha) (.of ha) (R.fh.free ha) ⟨[], upd_same, rfl⟩) ⟨a, rfl, List.mem_cons_self⟩ (.refl _)
theorem de_dT {pos : Pos} : DE X W (.Dict [] [] pos) (gDn (.dT [])) := fun H0 F0 ts env F σ H Q R p =>
  PE.sem pe_dnewT fun a ha => p (.ref a) F _ (R.push (Ext.tmp R.fh ha) (.of ha) (R.fh.free ha) ⟨[], upd_same, rfl⟩) ⟨a, rfl, List.mem_cons_self⟩ (.refl _)

/-! ### tests -/
def tS (X : Cx) (e : Expr) : TT := fun σ H Q => Bx (∀ (pins : List (Addr × Obj)) (s : Shared), Inv X pins σ H s → wpAny (model X.prog X.w) X.A (isTrue e X.env (eval e X.env)) (TP X pins σ Q) X.xe s)
theorem pt_sem {e : Expr} : PT X e (tS X e) := ⟨fun pins s _ _ _ I h => h.out pins s I⟩
theorem PT.sem {e : Expr} {t : TT} (h : PT X e t) {σ : L2.St} {H : Hp} {Q : Bool → Hp → Prop} (q : t σ H Q) : tS X e σ H Q := .mk fun pins s I => h.run pins s σ H Q I q
def PoT (K : PySem.W.Frag) (W : WN) (H0 F0 : Hp) (ts : List (Addr × D)) (F : Hp) (σ : L2.St) (Q : Bool → Hp → Prop) : Out Bool → Prop
  | .stuck => False
  | .exc c => ∀ H', Kp H0 H' → W c H'
  | .ok b env => ∀ F' H', Rs K H0 F0 ts env F' σ H' → Same F F' → Q b H'
def DT (X : Cx) (W : WN) (e : Expr) (g : Cs → Out Bool) : Prop := ∀ (H0 F0 : Hp) (ts : List (Addr × D)) (env : Cs) (F : Hp) (σ : L2.St) (H : Hp) (Q : Bool → Hp → Prop),
  Rs X.K H0 F0 ts env F σ H → PoT X.K W H0 F0 ts F σ Q (g env) → tS X e σ H Q
/-- .. whatever its whole is -/
def wS (X : Cx) (e : Expr) : TT := fun σ H Q => Bx (∀ (whole : Sem Value) (pins : List (Addr × Obj)) (s : Shared), Inv X pins σ H s → wpAny (model X.prog X.w) X.A (isTrue e X.env whole) (TP X pins σ Q) X.xe s)
theorem pw_sem {e : Expr} : PW X e (wS X e) := ⟨fun whole pins s _ _ _ I h => h.out whole pins s I⟩
theorem PW.sem {e : Expr} {t : TT} (h : PW X e t) {σ : L2.St} {H : Hp} {Q : Bool → Hp → Prop} (q : t σ H Q) : wS X e σ H Q := .mk fun whole pins s I => h.run whole pins s σ H Q I q
def DW (X : Cx) (W : WN) (e : Expr) (g : Cs → Out Bool) : Prop := ∀ (H0 F0 : Hp) (ts : List (Addr × D)) (env : Cs) (F : Hp) (σ : L2.St) (H : Hp) (Q : Bool → Hp → Prop),
  Rs X.K H0 F0 ts env F σ H → PoT X.K W H0 F0 ts F σ Q (g env) → wS X e σ H Q
theorem DW.dt {e : Expr} {g : Cs → Out Bool} (h : DW X W e g) : DT X W e g := fun H0 F0 ts env F σ H Q R p => .mk fun pins s I => (h H0 F0 ts env F σ H Q R p).out _ pins s I
def gB (g : Cs → Out RV) : Cs → Out Bool := fun env => (g env).bind fun r env1 => match r with
  | .frz (.bl b) => .ok b env1
  | _ => .stuck
theorem bool_ok {e : Expr} {g : Cs → Out RV} (h : DE X W e g) {H0 F0 : Hp} {ts : List (Addr × D)} {env : Cs} {F : Hp} {σ : L2.St} {H : Hp} {Q : Bool → Hp → Prop} (R : Rs X.K H0 F0 ts env F σ H) (p : PoT X.K W H0 F0 ts F σ Q (gB g env)) :
    eS X e σ H fun x H1 => ∃ c, x = .bl c ∧ Q c H1 := by
  refine h H0 F0 ts env F σ H _ R ?_
  unfold gB at p
  cases q : g env with
  | stuck => rw [q] at p; exact p.elim
  | exc c => rw [q] at p; exact p
  | ok r env1 =>
    rw [q] at p
    intro v F1 H1 R1 h1 s1
    dsimp only [Out.bind] at p
    split at p
    · rename_i b
      exact ⟨b, h1, p F1 H1 R1 s1⟩
    · exact p.elim
/-- an expression that gives True or False, as a test -/
theorem dt_val {e : Expr} {g : Cs → Out RV} (h : DE X W e g) (he : ∀ whole, isTrue e X.env whole = (do let v ← whole; standAt e.pos; holding [v] (truthy v)) := by intro _; rfl) : DT X W e (gB g) :=
  fun H0 F0 ts env F σ H Q R p => PT.sem (pt_val pe_sem he) (bool_ok h R p)
/-- a comparison as a test -/
theorem dt_cmp {op : CmpOp} {r : R2} {s : D → D → Option Rn} {a b : Expr} {ga gb : Cs → Out RV} {pos : Pos} (ho : OpR X (compareOp op) r) (h : V2 X.K r s) (ha : DE X W a ga) (hb : DE X W b gb) (hm : behindInMarks op b = false) : DT X W (.Compare a [op] [b] pos) (gB (g2 s ga gb)) := by
  intro H0 F0 ts env F σ H Q R p
  refine PT.sem (pt_cmpR ho pe_sem pe_sem hm) (two_ok (W := W) (s := s) (H0 := H0) (F0 := F0) (ts := ts) h ha hb R ?_)
  unfold gB at p
  cases q : g2 s ga gb env with
  | stuck => rw [q] at p; exact p.elim
  | exc c => rw [q] at p; exact p
  | ok r1 env1 =>
    rw [q] at p
    intro v F1 H1 R1 h1 s1
    dsimp only [Out.bind] at p
    split at p
    · rename_i b
      exact ⟨b, h1, p F1 H1 R1 s1⟩
    · exact p.elim
def gNot (g : Cs → Out Bool) : Cs → Out Bool := fun env => (g env).bind fun b env1 => .ok (!b) env1
def gAnd (g h : Cs → Out Bool) : Cs → Out Bool := fun env => (g env).bind fun b env1 => if b = true then h env1 else .ok false env1
def gOr (g h : Cs → Out Bool) : Cs → Out Bool := fun env => (g env).bind fun b env1 => if b = true then .ok true env1 else h env1
theorem dt_not {a : Expr} {g : Cs → Out Bool} {pos : Pos} (h : DT X W a g) : DT X W (.UnaryOp .Not a pos) (gNot g) := by
  intro H0 F0 ts env F σ H Q R p
  refine PT.sem (pt_not pt_sem) (h H0 F0 ts env F σ H _ R ?_)
  unfold gNot at p
  cases q : g env with
  | stuck => rw [q] at p; exact p.elim
  | exc c => rw [q] at p; exact p
  | ok b env1 => rw [q] at p; exact p
theorem dw_and1 {a : Expr} {g : Cs → Out Bool} {pos : Pos} (h : DT X W a g) : DW X W (.BoolOp .And [a] pos) g := fun H0 F0 ts env F σ H Q R p => PW.sem (pw_and1 pt_sem) (h H0 F0 ts env F σ H _ R p)
theorem dw_or1 {a : Expr} {g : Cs → Out Bool} {pos : Pos} (h : DT X W a g) : DW X W (.BoolOp .Or [a] pos) g := fun H0 F0 ts env F σ H Q R p => PW.sem (pw_or1 pt_sem) (h H0 F0 ts env F σ H _ R p)
theorem dw_and {a b : Expr} {rest : List Expr} {g h : Cs → Out Bool} {pos : Pos} (ha : DT X W a g) (hb : DW X W (.BoolOp .And (b :: rest) pos) h) : DW X W (.BoolOp .And (a :: b :: rest) pos) (gAnd g h) := by
  intro H0 F0 ts env F σ H Q R p
  refine PW.sem (pw_and pt_sem pw_sem) (ha H0 F0 ts env F σ H _ R ?_)
  unfold gAnd at p
  cases q : g env with
  | stuck => rw [q] at p; exact p.elim
  | exc c => rw [q] at p; exact p
  | ok b env1 =>
    rw [q] at p
    intro F1 H1 R1 s1
    dsimp only [Out.bind] at p
    cases b with
    | true =>
      rw [if_pos rfl] at p ⊢
      refine hb H0 F0 ts env1 F1 σ H1 _ R1 ?_
      cases q2 : h env1 with
      | stuck => rw [q2] at p; exact p.elim
      | exc c => rw [q2] at p; exact p
      | ok b env2 => rw [q2] at p; exact fun F2 H2 R2 s2 => p F2 H2 R2 (s1.trans s2)
    | false =>
      rw [if_neg (by decide)] at p ⊢
      exact p F1 H1 R1 s1
theorem dw_or {a b : Expr} {rest : List Expr} {g h : Cs → Out Bool} {pos : Pos} (ha : DT X W a g) (hb : DW X W (.BoolOp .Or (b :: rest) pos) h) : DW X W (.BoolOp .Or (a :: b :: rest) pos) (gOr g h) := by
  intro H0 F0 ts env F σ H Q R p
  refine PW.sem (pw_or pt_sem pw_sem) (ha H0 F0 ts env F σ H _ R ?_)
  unfold gOr at p
  cases q : g env with
  | stuck => rw [q] at p; exact p.elim
  | exc c => rw [q] at p; exact p
  | ok b env1 =>
    rw [q] at p
    intro F1 H1 R1 s1
    dsimp only [Out.bind] at p
    cases b with
    | false =>
      rw [if_neg (by decide)] at p ⊢
      refine hb H0 F0 ts env1 F1 σ H1 _ R1 ?_
      cases q2 : h env1 with
      | stuck => rw [q2] at p; exact p.elim
      | exc c => rw [q2] at p; exact p
      | ok b env2 => rw [q2] at p; exact fun F2 H2 R2 s2 => p F2 H2 R2 (s1.trans s2)
    | true =>
      rw [if_pos rfl] at p ⊢
      exact p F1 H1 R1 s1
/-- truths as values -/
def gBv (g : Cs → Out Bool) : Cs → Out RV := fun env => (g env).bind fun b env1 => .ok (.frz (.bl b)) env1
def gAndV (g h : Cs → Out RV) : Cs → Out RV := fun env => (gB g env).bind fun b env1 => if b = true then h env1 else .ok (.frz (.bl false)) env1
def gOrV (g h : Cs → Out RV) : Cs → Out RV := fun env => (gB g env).bind fun b env1 => if b = true then .ok (.frz (.bl true)) env1 else h env1
theorem de_one {op : BoolOp} {a : Expr} {g : Cs → Out RV} {pos : Pos} (h : DE X W a g) : DE X W (.BoolOp op [a] pos) g := fun H0 F0 ts env F σ H Q R p => PE.sem (pe_one pe_sem) (h H0 F0 ts env F σ H _ R p)
theorem PoE.same {H0 F0 : Hp} {ts : List (Addr × D)} {F F1 : Hp} {σ : L2.St} {Q : VK} {o : Out RV} (s : Same F F1) (p : PoE K W H0 F0 ts F σ Q o) : PoE K W H0 F0 ts F1 σ Q o := by
  cases o with
  | stuck => exact p
  | exc c => exact p
  | ok r env => exact fun v F' H' R h q => p v F' H' R h (s.trans q)
theorem de_and {a b : Expr} {rest : List Expr} {g h : Cs → Out RV} {pos : Pos} (ha : DE X W a g) (hb : DE X W (.BoolOp .And (b :: rest) pos) h) : DE X W (.BoolOp .And (a :: b :: rest) pos) (gAndV g h) := by
  intro H0 F0 ts env F σ H Q R p
  refine PE.sem (pe_and pe_sem pe_sem) (bool_ok (W := W) (H0 := H0) (F0 := F0) (ts := ts) (Q := fun c H1 => if c = true then eS X _ σ H1 Q else Q (.bl false) H1) ha R ?_)
  unfold gAndV at p
  cases q : gB g env with
  | stuck => rw [q] at p; exact p.elim
  | exc c => rw [q] at p; exact p
  | ok b env1 =>
    rw [q] at p
    intro F1 H1 R1 s1
    dsimp only [Out.bind] at p
    cases b with
    | true =>
      rw [if_pos rfl] at p ⊢
      exact hb H0 F0 ts env1 F1 σ H1 _ R1 (p.same s1)
    | false =>
      rw [if_neg (by decide)] at p ⊢
      exact p (.bl false) F1 H1 R1 rfl s1
theorem de_or {a b : Expr} {rest : List Expr} {g h : Cs → Out RV} {pos : Pos} (ha : DE X W a g) (hb : DE X W (.BoolOp .Or (b :: rest) pos) h) : DE X W (.BoolOp .Or (a :: b :: rest) pos) (gOrV g h) := by
  intro H0 F0 ts env F σ H Q R p
  refine PE.sem (pe_or pe_sem pe_sem) (bool_ok (W := W) (H0 := H0) (F0 := F0) (ts := ts) (Q := fun c H1 => if c = true then Q (.bl true) H1 else eS X _ σ H1 Q) ha R ?_)
  unfold gOrV at p
  cases q : gB g env with
  | stuck => rw [q] at p; exact p.elim
  | exc c => rw [q] at p; exact p
  | ok b env1 =>
    rw [q] at p
    intro F1 H1 R1 s1
    dsimp only [Out.bind] at p
    cases b with
    | false =>
      rw [if_neg (by decide)] at p ⊢
      exact hb H0 F0 ts env1 F1 σ H1 _ R1 (p.same s1)
    | true =>
      rw [if_pos rfl] at p ⊢
      exact p (.bl true) F1 H1 R1 rfl s1
def gNotV (g : Cs → Out RV) : Cs → Out RV := fun env => (gB g env).bind fun b env1 => .ok (.frz (.bl (!b))) env1
theorem de_not {a : Expr} {g : Cs → Out RV} {pos : Pos} (h : DE X W a g) : DE X W (.UnaryOp .Not a pos) (gNotV g) := by
  intro H0 F0 ts env F σ H Q R p
  refine PE.sem (pe_not pe_sem) (bool_ok (W := W) (H0 := H0) (F0 := F0) (ts := ts) (Q := fun c H1 => Q (.bl (!c)) H1) h R ?_)
  unfold gNotV at p
  cases q : gB g env with
  | stuck => rw [q] at p; exact p.elim
  | exc c => rw [q] at p; exact p
  | ok b env1 =>
    rw [q] at p
    intro F1 H1 R1 s1
    exact p (.bl (!b)) F1 H1 R1 rfl s1
def gIf (c : Cs → Out Bool) (g h : Cs → Out RV) : Cs → Out RV := fun env => (c env).bind fun b env1 => if b = true then g env1 else h env1
theorem de_if {c a b : Expr} {gc : Cs → Out Bool} {g h : Cs → Out RV} {pos : Pos} (hc : DT X W c gc) (ha : DE X W a g) (hb : DE X W b h) : DE X W (.IfExp c a b pos) (gIf gc g h) := by
  intro H0 F0 ts env F σ H Q R p
  refine PE.sem (pe_ifExp pt_sem pe_sem pe_sem) (hc H0 F0 ts env F σ H _ R ?_)
  unfold gIf at p
  cases q : gc env with
  | stuck => rw [q] at p; exact p.elim
  | exc c => rw [q] at p; exact p
  | ok b env1 =>
    rw [q] at p
    intro F1 H1 R1 s1
    dsimp only [Out.bind] at p
    cases b with
    | true =>
      rw [if_pos rfl] at p ⊢
      exact ha H0 F0 ts env1 F1 σ H1 _ R1 (p.same s1)
    | false =>
      rw [if_neg (by decide)] at p ⊢
      exact hb H0 F0 ts env1 F1 σ H1 _ R1 (p.same s1)
end DL

namespace DL
open PySem PySem.Spec PyProof.Rows L2
variable [TabCtx] {K : PySem.W.Frag} {X : Cx} {W : WN}
section
variable {F H : Hp} {v u : V}
theorem Top.int {i : Int} (h : Top K F H (.int i) v) : v = .int i := by
  rcases h with h | ⟨a, _, h⟩
  · exact h
  · exact h.elim
theorem Top.str {i : Str} (h : Top K F H (.str i) v) : v = .str i := by
  rcases h with h | ⟨a, _, h⟩
  · exact h
  · exact h.elim
theorem Top.bl {i : Bool} (h : Top K F H (.bl i) v) : v = .bl i := by
  rcases h with h | ⟨a, _, h⟩
  · exact h
  · exact h.elim
theorem Top.non (h : Top K F H .non v) : v = .non := by
  rcases h with h | ⟨a, _, h⟩
  · exact h
  · exact h.elim
theorem Top.lst {ds : List D} (s : Same F H) (h : Top K F H (.lst ds) v) : ∃ a vs, v = .ref a ∧ H a = some (.lst vs) ∧ DvL K F ds vs := by
  rcases h with ⟨a, vs, e, h, t⟩ | ⟨a, e, vs, h, t⟩
  · exact ⟨a, vs, e, s _ _ h, t⟩
  · exact ⟨a, vs, e, h, t⟩
theorem Top.tup {ds : List D} (s : Same F H) (h : Top K F H (.tup ds) v) : ∃ a vs, v = .ref a ∧ H a = some (.tup vs) ∧ DvL K F ds vs := by
  rcases h with ⟨a, vs, e, h, t⟩ | ⟨a, e, h⟩
  · exact ⟨a, vs, e, s _ _ h, t⟩
  · exact h.elim
theorem Top.dK {es : List (Key × D)} (s : Same F H) (h : Top K F H (.dK es) v) : ∃ a kvs, v = .ref a ∧ Rd H a (.dK kvs) ∧ DvK K F es kvs := by
  rcases h with ⟨a, o, vs, e, h, t⟩ | ⟨a, e, vs, h, t⟩
  · exact ⟨a, vs, e, .inr ⟨o, s _ _ h⟩, t⟩
  · exact ⟨a, vs, e, .inl h, t⟩
theorem Top.dT {es : List (List Key × D)} (s : Same F H) (h : Top K F H (.dT es) v) : ∃ a kvs, v = .ref a ∧ Rd H a (.dT kvs) ∧ DvT K F es kvs := by
  rcases h with ⟨a, o, vs, e, h, t⟩ | ⟨a, e, vs, h, t⟩
  · exact ⟨a, vs, e, .inr ⟨o, s _ _ h⟩, t⟩
  · exact ⟨a, vs, e, .inl h, t⟩
theorem Top.scr {ns : List Int} (s : Same F H) (h : Top K F H (.scr ns) v) : ∃ a, v = .ref a ∧ SqL K H a (ns.map V.int) := by
  rcases h with ⟨a, e, h⟩ | ⟨a, e, h⟩
  · exact ⟨a, e, s.seq h⟩
  · exact h.elim
theorem PV.f {d : D} {v : V} {Q : VK} (s : Same F H) (p : PV K F H Q (some (.f d))) (h : Dv K F d v) : Q v H := p v F H (.refl s) h
/-- a new list -/
theorem PV.newL {ds : List D} {vs : List V} {Q : VK} (s : Same F H) (p : PV K F H Q (some (.t (.lst ds)))) (h : DvL K F ds vs) (a : Addr) (n : H a = none) : Q (.ref a) (upd H a (.lst vs)) :=
  p a F _ (Ext.tmp s n) (.of n) (s.free n) ⟨vs, upd_same, h⟩
theorem PV.newT {ds : List D} {vs : List V} {Q : VK} (s : Same F H) (p : PV K F H Q (some (.f (.tup ds)))) (h : DvL K F ds vs) (a : Addr) (n : H a = none) : Q (.ref a) (upd H a (.tup vs)) :=
  have x := Ext.new (o := .tup vs) s n
  p (.ref a) _ _ x ⟨a, vs, rfl, upd_same, h.mono x.ff⟩
end

/-! ### lists of data -/
section
variable {F : Hp}
theorem DvL.app : ∀ {xs ys : List D} {vs ws : List V}, DvL K F xs vs → DvL K F ys ws → DvL K F (xs ++ ys) (vs ++ ws)
  | [], _, _, _, h, t => by cases h; exact t
  | _ :: _, _, _, _, ⟨v, r, e, h, t⟩, q => by subst e; exact ⟨v, r ++ _, rfl, h, DvL.app t q⟩
theorem DvL.at_ : ∀ {xs : List D} {vs : List V} {i : Nat} {d : D}, DvL K F xs vs → xs[i]? = some d → ∃ v, vs[i]? = some v ∧ Dv K F d v
  | [], _, _, _, _, e => by simp at e
  | _ :: _, _, 0, _, ⟨v, r, e, h, t⟩, q => by subst e; cases q; exact ⟨v, rfl, h⟩
  | _ :: _, _, i + 1, _, ⟨v, r, e, h, t⟩, q => by
    subst e
    obtain ⟨w, a, b⟩ := DvL.at_ (i := i) t (by simpa using q)
    exact ⟨w, by simpa using a, b⟩
theorem DvL.drop : ∀ {xs : List D} {vs : List V} (n : Nat), DvL K F xs vs → DvL K F (xs.drop n) (vs.drop n)
  | _, _, 0, h => h
  | [], _, _ + 1, h => by cases h; rfl
  | _ :: _, _, n + 1, ⟨v, r, e, h, t⟩ => by subst e; exact DvL.drop n t
theorem DvL.take : ∀ {xs : List D} {vs : List V} (n : Nat), DvL K F xs vs → DvL K F (xs.take n) (vs.take n)
  | _, _, 0, _ => by simp [DvL]
  | [], _, _ + 1, h => by cases h; simp [DvL]
  | _ :: _, _, n + 1, ⟨v, r, e, h, t⟩ => by subst e; exact ⟨v, r.take n, rfl, h, DvL.take n t⟩
theorem DvL.rev {xs : List D} {vs : List V} (h : DvL K F xs vs) : DvL K F xs.reverse vs.reverse := by
  induction xs generalizing vs with
  | nil => cases h; rfl
  | cons d ds ih =>
    obtain ⟨v, r, e, h, t⟩ := h
    subst e
    rw [List.reverse_cons, List.reverse_cons]
    exact (ih t).app ⟨v, [], rfl, h, rfl⟩
theorem DvL.ints : ∀ {ns : List Int} {vs : List V}, DvL K F (ns.map D.int) vs → vs = ns.map V.int
  | [], _, h => h
  | n :: ns, _, ⟨v, r, e, h, t⟩ => by subst e; cases h; rw [DvL.ints t, List.map_cons]
theorem DvL.of_ints : ∀ {ns : List Int}, DvL K F (ns.map D.int) (ns.map V.int)
  | [] => rfl
  | n :: ns => ⟨_, _, rfl, rfl, DvL.of_ints⟩
theorem DvL.bls : ∀ {ns : List Bool} {vs : List V}, DvL K F (ns.map D.bl) vs → vs = ns.map V.bl
  | [], _, h => h
  | n :: ns, _, ⟨v, r, e, h, t⟩ => by subst e; cases h; rw [DvL.bls t, List.map_cons]
theorem DvL.atI {xs : List D} {vs : List V} {i : Int} {d : D} (h : DvL K F xs vs) (e : L2.atI xs i = some d) : ∃ v, L2.atI vs i = some v ∧ Dv K F d v := by
  unfold L2.atI at e ⊢
  rw [h.length]
  cases q : ixN xs.length i with
  | none => rw [q] at e; cases e
  | some j =>
    rw [q] at e
    exact h.at_ e
end
def asInts : List D → Option (List Int)
  | [] => some []
  | .int i :: r => (asInts r).map (i :: ·)
  | _ => none
theorem asInts_map : ∀ (ns : List Int), asInts (ns.map D.int) = some ns
  | [] => rfl
  | n :: ns => by simp [asInts, asInts_map ns]
theorem asInts_eq : ∀ {ds : List D} {ns : List Int}, asInts ds = some ns → ds = ns.map D.int
  | [], _, h => by cases h; rfl
  | .int i :: r, ns, h => by
    unfold asInts at h
    cases q : asInts r with
    | none => rw [q] at h; cases h
    | some m => rw [q] at h; cases h; rw [asInts_eq q]; rfl
  | .non :: _, _, h => by cases h
  | .bl _ :: _, _, h => by cases h
  | .str _ :: _, _, h => by cases h
  | .lst _ :: _, _, h => by cases h
  | .tup _ :: _, _, h => by cases h
  | .dK _ :: _, _, h => by cases h
  | .dT _ :: _, _, h => by cases h
  | .scr _ :: _, _, h => by cases h
  | .adr _ :: _, _, h => by cases h
def asBls : List D → Option (List Bool)
  | [] => some []
  | .bl i :: r => (asBls r).map (i :: ·)
  | _ => none
theorem asBls_map : ∀ (ns : List Bool), asBls (ns.map D.bl) = some ns
  | [] => rfl
  | n :: ns => by simp [asBls, asBls_map ns]
theorem asBls_eq : ∀ {ds : List D} {ns : List Bool}, asBls ds = some ns → ds = ns.map D.bl
  | [], _, h => by cases h; rfl
  | .bl i :: r, ns, h => by
    unfold asBls at h
    cases q : asBls r with
    | none => rw [q] at h; cases h
    | some m => rw [q] at h; cases h; rw [asBls_eq q]; rfl
  | .non :: _, _, h => by cases h
  | .int _ :: _, _, h => by cases h
  | .str _ :: _, _, h => by cases h
  | .lst _ :: _, _, h => by cases h
  | .tup _ :: _, _, h => by cases h
  | .dK _ :: _, _, h => by cases h
  | .dT _ :: _, _, h => by cases h
  | .scr _ :: _, _, h => by cases h
  | .adr _ :: _, _, h => by cases h

/-! ### arithmetic -/
def sz (n : Nat) : Bool := decide (n ≤ 16777216)
theorem sz_le {n : Nat} (h : sz n = true) : n ≤ sizeLine := by rw [sizeLine_eq]; exact of_decide_eq_true h
def sAdd : D → D → Option Rn
  | .int i, .int j => some (.f (.int (i + j)))
  | .str a, .str b => if sz (a.length + b.length) = true then some (.f (.str (a ++ b))) else none
  | .lst xs, .lst ys => if sz (xs.length + ys.length) = true then some (.t (.lst (xs ++ ys))) else none
  | .tup xs, .tup ys => if sz (xs.length + ys.length) = true then some (.f (.tup (xs ++ ys))) else none
  | _, _ => none
def rAdd (K : PySem.W.Frag) : R2 := fun x y H Q => rCatA K x y H Q ∨ rI0 (fun i j => .int (i + j)) x y H Q ∨ rCat x y H Q ∨ ∃ i j, x = .str i ∧ y = .str j ∧ i.length + j.length ≤ sizeLine ∧ Q (.str (i ++ j)) H
theorem op_addD : OpR X (binaryOp .Add) (rAdd X.K) := OpR.or op_catA (OpR.or op_add (OpR.or op_cat op_add_str))
theorem v_add : V2 K (rAdd K) sAdd := by
  intro F H d e v u Q s hd he p
  cases d with
  | int i =>
    cases e with
    | int j => cases hd.int; cases he.int; exact .inr (.inl ⟨i, j, rfl, rfl, p.f s rfl⟩)
    | _ => exact p.elim
  | tup xs =>
    cases e with
    | tup ys =>
      obtain ⟨a, vs, e1, h1, t1⟩ := hd.tup s
      obtain ⟨b, ws, e2, h2, t2⟩ := he.tup s
      have gd : Dv K F (.tup xs) v := by
        rcases hd with h | ⟨_, _, h⟩
        · exact h
        · exact h.elim
      have ge : Dv K F (.tup ys) u := by
        rcases he with h | ⟨_, _, h⟩
        · exact h
        · exact h.elim
      dsimp only [sAdd] at p
      split at p
      · rename_i z
        refine .inl ⟨a, b, vs, ws, e1, e2, SqT.of h1, SqT.of h2, by rw [t1.length, t2.length]; exact sz_le z, fun q => ?_, fun _ q => ?_, fun _ _ q n => p.newT s (t1.app t2) q n⟩
        · have z1 : xs = [] := List.eq_nil_of_length_eq_zero (by rw [← t1.length, q]; rfl)
          rw [← e2]
          subst z1
          exact p.f s ge
        · have z1 : ys = [] := List.eq_nil_of_length_eq_zero (by rw [← t2.length, q]; rfl)
          rw [← e1]
          subst z1
          rw [List.append_nil] at p
          exact p.f s gd
      · exact p.elim
    | _ => exact p.elim
  | str i =>
    cases e with
    | str j =>
      cases hd.str; cases he.str
      dsimp only [sAdd] at p
      split at p
      · rename_i z; exact .inr (.inr (.inr ⟨i, j, rfl, rfl, sz_le z, p.f s rfl⟩))
      · exact p.elim
    | _ => exact p.elim
  | lst xs =>
    cases e with
    | lst ys =>
      obtain ⟨a, vs, e1, h1, t1⟩ := hd.lst s
      obtain ⟨b, ws, e2, h2, t2⟩ := he.lst s
      dsimp only [sAdd] at p
      split at p
      · rename_i z
        exact .inr (.inr (.inl ⟨a, b, vs, ws, e1, e2, h1, h2, by rw [t1.length, t2.length]; exact sz_le z, fun q n => p.newL s (t1.app t2) q n⟩))
      · exact p.elim
    | _ => exact p.elim
  | _ => exact p.elim
def sSub : D → D → Option Rn
  | .int i, .int j => some (.f (.int (i - j)))
  | _, _ => none
theorem v_sub : V2 K (rI0 fun i j => .int (i - j)) sSub := by
  intro F H d e v u Q s hd he p
  cases d with
  | int i =>
    cases e with
    | int j => cases hd.int; cases he.int; exact ⟨i, j, rfl, rfl, p.f s rfl⟩
    | _ => exact p.elim
  | _ => exact p.elim
/-- one factor below 2 ^ 64, or both below 2 ^ 300 -/
def mulOk (i j : Int) : Bool := decide (i.natAbs < 2 ^ 64) || decide (j.natAbs < 2 ^ 64) || (decide (i.natAbs < 2 ^ 300) && decide (j.natAbs < 2 ^ 300))
def sMul : D → D → Option Rn
  | .int i, .int j => if mulOk i j = true then some (.f (.int (i * j))) else none
  | .lst xs, .int k => if sz (xs.length * k.toNat) = true ∧ -(2 ^ 63) ≤ k ∧ k < 2 ^ 63 then some (.t (.lst (List.replicate k.toNat xs).flatten)) else none
  | _, _ => none
def rMulD : R2 := fun x y H Q => rI (fun i j => CMul i j ∨ CMulW i j) (fun i j => .int (i * j)) x y H Q ∨ rRep x y H Q
theorem op_mulD : OpR X (binaryOp .Mult) rMulD := by
  refine OpR.or (fun pins s σ H x y v u Q I rx ry h => ?_) op_rep
  obtain ⟨i, j, rfl, rfl, hc, q⟩ := h
  rcases hc with hc | hc
  · exact op_mul pins s σ H _ _ v u Q I rx ry ⟨i, j, rfl, rfl, hc, q⟩
  · exact op_mulW pins s σ H _ _ v u Q I rx ry ⟨i, j, rfl, rfl, hc, q⟩
theorem mulOk_ok {i j : Int} (h : mulOk i j = true) : CMul i j ∨ CMulW i j := by
  unfold mulOk at h
  simp only [Bool.or_eq_true, Bool.and_eq_true, decide_eq_true_eq] at h
  rcases h with (h | h) | ⟨h, h2⟩
  · exact .inl (.inl ⟨by omega, by omega⟩)
  · exact .inl (.inr ⟨by omega, by omega⟩)
  · exact .inr (wide_mul h h2 (by decide) (by decide) (by decide))
theorem DvL.rep {F : Hp} {xs : List D} {vs : List V} (h : DvL K F xs vs) : ∀ n : Nat, DvL K F (List.replicate n xs).flatten (List.replicate n vs).flatten
  | 0 => by simp [DvL]
  | n + 1 => by
    rw [List.replicate_succ, List.replicate_succ, List.flatten_cons, List.flatten_cons]
    exact h.app (DvL.rep h n)
theorem v_mul : V2 K rMulD sMul := by
  intro F H d e v u Q s hd he p
  cases d with
  | int i =>
    cases e with
    | int j =>
      cases hd.int; cases he.int
      dsimp only [sMul] at p
      split at p
      · rename_i z; exact .inl ⟨i, j, rfl, rfl, mulOk_ok z, p.f s rfl⟩
      · exact p.elim
    | _ => exact p.elim
  | lst xs =>
    cases e with
    | int j =>
      cases he.int
      obtain ⟨a, vs, e1, h1, t1⟩ := hd.lst s
      dsimp only [sMul] at p
      split at p
      · rename_i z
        refine .inr ⟨a, j, vs, e1, rfl, h1, z.2.1, z.2.2, by rw [t1.length]; exact sz_le z.1, fun q n => ?_⟩
        exact p.newL s (t1.rep _) q n
      · exact p.elim
    | _ => exact p.elim
  | _ => exact p.elim
def sFdiv : D → D → Option Rn
  | .int i, .int j => if 0 < j ∧ j.natAbs < 2 ^ 300 then some (.f (.int (i / j))) else none
  | _, _ => none
theorem v_fdiv : V2 K (rI CDivW fun i j => .int (i / j)) sFdiv := by
  intro F H d e v u Q s hd he p
  cases d with
  | int i =>
    cases e with
    | int j =>
      cases hd.int; cases he.int
      dsimp only [sFdiv] at p
      split at p
      · rename_i z; exact ⟨i, j, rfl, rfl, wide_div z.1 z.2 (by decide) (by decide), p.f s rfl⟩
      · exact p.elim
    | _ => exact p.elim
  | _ => exact p.elim
def sMod : D → D → Option Rn
  | .int i, .int j => if 0 < j then some (.f (.int (i % j))) else none
  | _, _ => none
theorem v_mod : V2 K (rI (fun _ j => 0 < j) fun i j => .int (i % j)) sMod := by
  intro F H d e v u Q s hd he p
  cases d with
  | int i =>
    cases e with
    | int j =>
      cases hd.int; cases he.int
      dsimp only [sMod] at p
      split at p
      · rename_i z; exact ⟨i, j, rfl, rfl, z, p.f s rfl⟩
      · exact p.elim
    | _ => exact p.elim
  | _ => exact p.elim
def sNeg : D → Option Rn
  | .int i => some (.f (.int (-i)))
  | _ => none
theorem v_neg : V1 K (rU fun i => .int (-i)) sNeg := by
  intro F H d v Q s hd p
  cases d with
  | int i => cases hd.int; exact ⟨i, rfl, p.f s rfl⟩
  | _ => exact p.elim

/-! ### order -/
def sCmp (f : Int → Int → Bool) : D → D → Option Rn
  | .int i, .int j => some (.f (.bl (f i j)))
  | _, _ => none
theorem v_cmp (f : Int → Int → Bool) : V2 K (rI0 fun i j => .bl (f i j)) (sCmp f) := by
  intro F H d e v u Q s hd he p
  cases d with
  | int i =>
    cases e with
    | int j => cases hd.int; cases he.int; exact ⟨i, j, rfl, rfl, p.f s rfl⟩
    | _ => exact p.elim
  | _ => exact p.elim
abbrev fLt : Int → Int → Bool := fun i j => decide (i < j)
abbrev fLe : Int → Int → Bool := fun i j => decide (i ≤ j)
abbrev fGt : Int → Int → Bool := fun i j => decide (j < i)
abbrev fGe : Int → Int → Bool := fun i j => decide (j ≤ i)
/-- < of ints and of texts -/
def sLt : D → D → Option Rn
  | .int i, .int j => some (.f (.bl (decide (i < j))))
  | .str a, .str b => some (.f (.bl (decide (a.cps.toList < b.cps.toList))))
  | _, _ => none
def rLtD : R2 := fun x y H Q => rI0 (fun i j => .bl (decide (i < j))) x y H Q ∨ ∃ i j, x = .str i ∧ y = .str j ∧ Q (.bl (decide (i.cps.toList < j.cps.toList))) H
theorem op_ltD : OpR X (compareOp .Lt) rLtD := OpR.or op_lt op_lt_str
theorem v_lt : V2 K rLtD sLt := by
  intro F H d e v u Q s hd he p
  cases d with
  | int i =>
    cases e with
    | int j => cases hd.int; cases he.int; exact .inl ⟨i, j, rfl, rfl, p.f s rfl⟩
    | _ => exact p.elim
  | str i =>
    cases e with
    | str j => cases hd.str; cases he.str; exact .inr ⟨i, j, rfl, rfl, p.f s rfl⟩
    | _ => exact p.elim
  | _ => exact p.elim

/-! ### equality -/
mutual
def py : D → Option PyData
  | .non => some .none
  | .bl b => some (.bool b)
  | .int i => some (.int i)
  | .str s => some (.str s)
  | .lst xs => (pyL xs).map .list
  | .tup xs => (pyL xs).map .tuple
  | .dK _ => none
  | .dT _ => none
  | .scr ns => some (.list (ns.map .int))
  | .adr _ => none
def pyL : List D → Option (List PyData)
  | [] => some []
  | d :: ds => match py d, pyL ds with
    | some p, some ps => some (p :: ps)
    | _, _ => none
end
theorem dp_ints {H : Hp} : ∀ ns : List Int, DpAll K H (ns.map V.int) (ns.map PyData.int)
  | [] => .nil
  | n :: ns => .cons (.int n) (dp_ints ns)
mutual
theorem Dv.dp {F H : Hp} (s : Same F H) : ∀ {d : D} {v : V} {p : PyData}, Dv K F d v → py d = some p → Dp K H v p
  | .non, _, _, h, e => by cases h; cases e; exact .non
  | .bl _, _, _, h, e => by cases h; cases e; exact .bl _
  | .int _, _, _, h, e => by cases h; cases e; exact .int _
  | .str _, _, _, h, e => by cases h; cases e; exact .str _
  | .lst xs, _, _, ⟨a, vs, e1, h, t⟩, e => by
    subst e1
    unfold py at e
    cases q : pyL xs with
    | none => rw [q] at e; cases e
    | some ps => rw [q] at e; cases e; exact .lst (SqL.of (s _ _ h)) (DvL.dp s t q)
  | .tup xs, _, _, ⟨a, vs, e1, h, t⟩, e => by
    subst e1
    unfold py at e
    cases q : pyL xs with
    | none => rw [q] at e; cases e
    | some ps => rw [q] at e; cases e; exact .tup (SqT.of (s _ _ h)) (DvL.dp s t q)
  | .dK _, _, _, _, e => by cases e
  | .dT _, _, _, _, e => by cases e
  | .scr ns, _, _, ⟨a, e1, h⟩, e => by subst e1; cases e; exact .lst (s.seq h) (dp_ints ns)
  | .adr _, _, _, _, e => by cases e
theorem DvL.dp {F H : Hp} (s : Same F H) : ∀ {ds : List D} {vs : List V} {ps : List PyData}, DvL K F ds vs → pyL ds = some ps → DpAll K H vs ps
  | [], _, _, h, e => by cases h; cases e; exact .nil
  | d :: ds, _, _, ⟨v, r, e1, h, t⟩, e => by
    subst e1
    unfold pyL at e
    cases q : py d with
    | none => rw [q] at e; cases e
    | some p =>
      rw [q] at e
      cases q2 : pyL ds with
      | none => rw [q2] at e; cases e
      | some ps => rw [q2] at e; cases e; exact .cons (Dv.dp s h q) (DvL.dp s t q2)
end
theorem Top.dp {F H : Hp} {d : D} {v : V} {p : PyData} (s : Same F H) (h : Top K F H d v) (e : py d = some p) : Dp K H v p := by
  rcases h with h | ⟨a, rfl, h⟩
  · exact h.dp s e
  · cases d with
    | lst xs =>
      obtain ⟨vs, h, t⟩ := h
      unfold py at e
      cases q : pyL xs with
      | none => rw [q] at e; cases e
      | some ps => rw [q] at e; cases e; exact .lst (SqL.of h) (t.dp s q)
    | dK _ => cases e
    | dT _ => cases e
    | _ => exact h.elim
/-- == of data without dicts -/
def eqD (d e : D) : Option Bool := match py d, py e with
  | some p, some q => if SeqAt.shaped p = true ∧ SeqAt.shaped q = true then some (PyData.eqv p q) else none
  | _, _ => none
/-- == of two of None, truths, ints, texts -/
def flatE : D → Option V
  | .non => some .non
  | .bl b => some (.bl b)
  | .int i => some (.int i)
  | .str s => some (.str s)
  | _ => none
def scalD (d e : D) : Option Bool := match flatE d, flatE e with
  | some x, some y => if scal x y = true then some (decide (x = y)) else none
  | _, _ => none
def eqA (d e : D) : Option Bool := match scalD d e with
  | some b => some b
  | none => eqD d e
def sEq (d e : D) : Option Rn := (eqA d e).map fun b => .f (.bl b)
def sNe (d e : D) : Option Rn := (eqA d e).map fun b => .f (.bl (!b))
theorem Top.flatE {F H : Hp} {d : D} {v w : V} (h : Top K F H d v) (e : flatE d = some w) : v = w := by
  rcases h with h | ⟨a, _, h⟩
  · cases d <;> first | (cases h; cases e; rfl) | cases e
  · cases d <;> first | exact h.elim | cases e
def rEqB (K : PySem.W.Frag) : R2 := fun x y H Q => rEq x y H Q ∨ rEqD K x y H Q
def rNeB (K : PySem.W.Frag) : R2 := fun x y H Q => rNe x y H Q ∨ rNeD K x y H Q
theorem op_eqB (hu : X.A.units + 64 < cLine) : OpR X (compareOp .Eq) (rEqB X.K) := OpR.or op_eq (op_eqD hu)
theorem op_neB (hu : X.A.units + 64 < cLine) : OpR X (compareOp .NotEq) (rNeB X.K) := OpR.or op_ne (op_neD hu)
theorem eqA_cases {F H : Hp} {d e : D} {v u : V} {b : Bool} (s : Same F H) (hd : Top K F H d v) (he : Top K F H e u) (h : eqA d e = some b) :
    (scal v u = true ∧ b = decide (v = u)) ∨ ∃ p q, Dp K H v p ∧ Dp K H u q ∧ SeqAt.shaped p = true ∧ SeqAt.shaped q = true ∧ b = PyData.eqv p q := by
  unfold eqA at h
  cases q : scalD d e with
  | some b' =>
    rw [q] at h
    cases h
    unfold scalD at q
    cases q1 : flatE d with
    | none => rw [q1] at q; cases q
    | some x =>
      cases q2 : flatE e with
      | none => rw [q1, q2] at q; cases q
      | some y =>
        rw [q1, q2] at q
        dsimp only at q
        split at q
        · rename_i z
          cases q
          cases hd.flatE q1
          cases he.flatE q2
          exact .inl ⟨z, rfl⟩
        · cases q
  | none =>
    rw [q] at h
    have h : eqD d e = some b := h
    unfold eqD at h
    cases q1 : py d with
    | none => rw [q1] at h; cases h
    | some p1 =>
      cases q2 : py e with
      | none => rw [q1, q2] at h; cases h
      | some p2 =>
        rw [q1, q2] at h
        dsimp only at h
        split at h
        · rename_i z
          cases h
          exact .inr ⟨p1, p2, hd.dp s q1, he.dp s q2, z.1, z.2, rfl⟩
        · cases h
theorem v_eq : V2 K (rEqB K) sEq := by
  intro F H d e v u Q s hd he p
  unfold sEq at p
  cases q : eqA d e with
  | none => rw [q] at p; exact p.elim
  | some b =>
    rw [q] at p
    rcases eqA_cases s hd he q with ⟨z, rfl⟩ | ⟨p1, p2, h1, h2, z1, z2, rfl⟩
    · exact .inl ⟨z, PV.f s p rfl⟩
    · exact .inr ⟨p1, p2, h1, h2, z1, z2, PV.f s p rfl⟩
theorem v_ne : V2 K (rNeB K) sNe := by
  intro F H d e v u Q s hd he p
  unfold sNe at p
  cases q : eqA d e with
  | none => rw [q] at p; exact p.elim
  | some b =>
    rw [q] at p
    rcases eqA_cases s hd he q with ⟨z, rfl⟩ | ⟨p1, p2, h1, h2, z1, z2, rfl⟩
    · exact .inl ⟨z, PV.f s p rfl⟩
    · exact .inr ⟨p1, p2, h1, h2, z1, z2, PV.f s p rfl⟩
def sIsN : D → D → Option Rn
  | .non, .non => some (.f (.bl true))
  | _, .non => some (.f (.bl false))
  | _, _ => none
def isNon : D → Bool
  | .non => true
  | _ => false
theorem Top.is_non {F H : Hp} {d : D} {v : V} (h : Top K F H d v) : decide (v = .non) = isNon d := by
  cases d with
  | non => cases h.non; rfl
  | bl b => cases h.bl; rfl
  | int b => cases h.int; rfl
  | str b => cases h.str; rfl
  | adr a =>
    rcases h with h | ⟨b, e, h⟩
    · have h : v = .ref a := h
      rw [h]
      rfl
    · exact h.elim
  | _ =>
    have : ∃ a, v = .ref a := by
      rcases h with h | ⟨a, e, _⟩
      · obtain ⟨a, h⟩ := h
        first
          | exact ⟨a, h.1⟩
          | (obtain ⟨_, h⟩ := h; exact ⟨a, h.1⟩)
          | (obtain ⟨_, _, h⟩ := h; exact ⟨a, h.1⟩)
      · exact ⟨a, e⟩
    obtain ⟨a, rfl⟩ := this
    rfl
def sIs (d e : D) : Option Rn := if isNon e = true then some (.f (.bl (isNon d))) else none
def sIsNot (d e : D) : Option Rn := if isNon e = true then some (.f (.bl (!isNon d))) else none
theorem isNon_eq {e : D} (h : isNon e = true) : e = .non := by cases e <;> first | rfl | cases h
theorem v_is : V2 K (fun x y H Q => y = .non ∧ Q (.bl (decide (x = .non))) H) sIs := by
  intro F H d e v u Q s hd he p
  unfold sIs at p
  split at p
  · rename_i z
    cases isNon_eq z
    refine ⟨he.non, ?_⟩
    rw [hd.is_non]
    exact PV.f s p rfl
  · exact p.elim
theorem v_isNot : V2 K (fun x y H Q => y = .non ∧ Q (.bl (!decide (x = .non))) H) sIsNot := by
  intro F H d e v u Q s hd he p
  unfold sIsNot at p
  split at p
  · rename_i z
    cases isNon_eq z
    refine ⟨he.non, ?_⟩
    rw [hd.is_non]
    exact PV.f s p rfl
  · exact p.elim

/-! ### in -/
def flat : D → Option V
  | .non => some .non
  | .bl b => some (.bl b)
  | .int i => some (.int i)
  | .str s => some (.str s)
  | _ => none
def flatL : List D → Option (List V)
  | [] => some []
  | d :: ds => match flat d, flatL ds with
    | some p, some ps => some (p :: ps)
    | _, _ => none
theorem Dv.flat {F : Hp} {d : D} {v w : V} (h : Dv K F d v) (e : flat d = some w) : v = w ∧ flatV w = true := by
  cases d <;> first | (cases h; cases e; exact ⟨rfl, rfl⟩) | cases e
theorem DvL.flat {F : Hp} : ∀ {ds : List D} {vs ws : List V}, DvL K F ds vs → flatL ds = some ws → vs = ws ∧ ws.all flatV = true
  | [], _, _, h, e => by cases h; cases e; exact ⟨rfl, rfl⟩
  | d :: ds, _, _, ⟨v, r, e1, h, t⟩, e => by
    subst e1
    unfold flatL at e
    cases q : DL.flat d with
    | none => rw [q] at e; cases e
    | some p =>
      rw [q] at e
      cases q2 : flatL ds with
      | none => rw [q2] at e; cases e
      | some ps =>
        rw [q2] at e
        cases e
        obtain ⟨e1, h1⟩ := h.flat q
        obtain ⟨e2, h2⟩ := DvL.flat t q2
        subst e1 e2
        exact ⟨rfl, by rw [List.all_cons, h1, h2]; rfl⟩
theorem Top.flat {F H : Hp} {d : D} {v w : V} (h : Top K F H d v) (e : flat d = some w) : v = w ∧ flatV w = true := by
  rcases h with h | ⟨a, _, h⟩
  · exact h.flat e
  · cases d <;> first | exact h.elim | cases e
/-- a key of a dict -/
def asKey : D → Option Key
  | .int i => some (.inl i)
  | .str s => some (.inr s)
  | _ => none
def asKeys : List D → Option (List Key)
  | [] => some []
  | d :: ds => match asKey d, asKeys ds with
    | some p, some ps => some (p :: ps)
    | _, _ => none
theorem Dv.key {F : Hp} {d : D} {v : V} {k : Key} (h : Dv K F d v) (e : asKey d = some k) : v = kV k := by
  cases d <;> first | (cases h; cases e; rfl) | cases e
theorem Top.key {F H : Hp} {d : D} {v : V} {k : Key} (h : Top K F H d v) (e : asKey d = some k) : v = kV k := by
  rcases h with h | ⟨a, _, h⟩
  · exact h.key e
  · cases d <;> first | exact h.elim | cases e
theorem DvL.keys {F : Hp} : ∀ {ds : List D} {vs : List V} {ks : List Key}, DvL K F ds vs → asKeys ds = some ks → vs = ks.map kV
  | [], _, _, h, e => by cases h; cases e; rfl
  | d :: ds, _, _, ⟨v, r, e1, h, t⟩, e => by
    subst e1
    unfold asKeys at e
    cases q : asKey d with
    | none => rw [q] at e; cases e
    | some p =>
      rw [q] at e
      cases q2 : asKeys ds with
      | none => rw [q2] at e; cases e
      | some ps =>
        rw [q2] at e
        cases e
        rw [h.key q, DvL.keys t q2, List.map_cons]
/-- what a dict holds at a key -/
def look {κ : Type} [DecidableEq κ] (es : List (κ × D)) (k : κ) : Option D := (es.find? fun e => decide (e.1 = k)).map (·.2)
def put {κ : Type} [DecidableEq κ] (es : List (κ × D)) (k : κ) (d : D) : List (κ × D) :=
  if (es.any fun e => decide (e.1 = k)) = true then es.map fun e => if e.1 = k then (e.1, d) else e else es ++ [(k, d)]
theorem DvK.look {F : Hp} {k : Key} : ∀ {es : List (Key × D)} {kvs : List (Key × V)}, DvK K F es kvs → (look es k = none ∧ valV kvs k = none) ∨ ∃ d v, look es k = some d ∧ valV kvs k = some v ∧ Dv K F d v
  | [], _, h => by cases h; exact .inl ⟨rfl, rfl⟩
  | (k', d) :: es, _, ⟨v, r, e, h, t⟩ => by
    subst e
    by_cases q : k' = k
    · subst q
      exact .inr ⟨d, v, by simp [DL.look], by simp [valV], h⟩
    · rcases DvK.look (k := k) t with ⟨a, b⟩ | ⟨d', v', a, b, c⟩
      · exact .inl ⟨by simpa [DL.look, List.find?_cons, q] using a, by rw [valV_neg q]; exact b⟩
      · exact .inr ⟨d', v', by simpa [DL.look, List.find?_cons, q] using a, by rw [valV_neg q]; exact b, c⟩
theorem DvT.look {F : Hp} {k : List Key} : ∀ {es : List (List Key × D)} {kvs : List (List Key × V)}, DvT K F es kvs → (DL.look es k = none ∧ valV kvs k = none) ∨ ∃ d v, DL.look es k = some d ∧ valV kvs k = some v ∧ Dv K F d v
  | [], _, h => by cases h; exact .inl ⟨rfl, rfl⟩
  | (k', d) :: es, _, ⟨v, r, e, h, t⟩ => by
    subst e
    by_cases q : k' = k
    · subst q
      exact .inr ⟨d, v, by simp [DL.look], by simp [valV], h⟩
    · rcases DvT.look (k := k) t with ⟨a, b⟩ | ⟨d', v', a, b, c⟩
      · exact .inl ⟨by simpa [DL.look, List.find?_cons, q] using a, by rw [valV_neg q]; exact b⟩
      · exact .inr ⟨d', v', by simpa [DL.look, List.find?_cons, q] using a, by rw [valV_neg q]; exact b, c⟩
/-- d's entry at e: none if that is no dict or no key -/
def dget (d e : D) : Option (Option D) := match d with
  | .dK es => (asKey e).map fun k => look es k
  | .dT es => match e with
    | .tup xs => (asKeys xs).map fun k => look es k
    | _ => none
  | _ => none
theorem dget_ok {F H : Hp} {d e : D} {v u : V} {o : Option D} (s : Same F H) (hd : Top K F H d v) (he : Top K F H e u) (h : dget d e = some o) :
    ∃ a r, v = .ref a ∧ IsD H a ∧ DGet H a u r ∧ ((o = none ∧ r = none) ∨ ∃ d' w, o = some d' ∧ r = some w ∧ Dv K F d' w) := by
  cases d with
  | dK es =>
    obtain ⟨a, kvs, e1, h1, t1⟩ := hd.dK s
    dsimp only [dget] at h
    cases q : asKey e with
    | none => rw [q] at h; cases h
    | some k =>
      rw [q] at h
      cases h
      refine ⟨a, valV kvs k, e1, .inl ⟨kvs, h1⟩, .inl ⟨kvs, k, h1, he.key q, rfl⟩, ?_⟩
      rcases t1.look (k := k) with z | ⟨d', w, z⟩
      · exact .inl z
      · exact .inr ⟨d', w, z⟩
  | dT es =>
    cases e with
    | tup xs =>
      obtain ⟨a, kvs, e1, h1, t1⟩ := hd.dT s
      obtain ⟨b, vs, e2, h2, t2⟩ := he.tup s
      have h : (asKeys xs).map (fun k => look es k) = some o := h
      cases q : asKeys xs with
      | none => rw [q] at h; cases h
      | some k =>
        rw [q] at h
        cases h
        refine ⟨a, valV kvs k, e1, .inr ⟨kvs, h1⟩, .inr ⟨kvs, k, b, h1, e2, by rw [h2, t2.keys q], rfl⟩, ?_⟩
        rcases t1.look (k := k) with z | ⟨d', w, z⟩
        · exact .inl z
        · exact .inr ⟨d', w, z⟩
    | _ => cases h
  | _ => cases h
def inSeq (x : D) (xs : List D) : Option Bool := match flat x, flatL xs with
  | some a, some as => some (inV a as)
  | _, _ => none
def isIn (x y : D) : Option Bool := match y with
  | .lst xs => inSeq x xs
  | .tup xs => inSeq x xs
  | .str z => match x with
    | .str a => match a.cps.toList with
      | [c] => some (decide (c ∈ z.cps.toList))
      | _ => none
    | _ => none
  | _ => (dget y x).map Option.isSome
def sIn (x y : D) : Option Rn := (isIn x y).map fun b => .f (.bl b)
def sNotIn (x y : D) : Option Rn := (isIn x y).map fun b => .f (.bl (!b))
def rInD (K : PySem.W.Frag) (neg : Bool) : R2 := fun x y H Q => rIn K neg x y H Q ∨ (∃ (c : Nat) (z : Str), x = .str ⟨#[c]⟩ ∧ y = .str z ∧ Q (.bl (if neg then !decide (c ∈ z.cps.toList) else decide (c ∈ z.cps.toList))) H) ∨
  ∃ a o, y = .ref a ∧ DGet H a x o ∧ Q (.bl (if neg then !o.isSome else o.isSome)) H
theorem op_inD (hu : X.A.units + 1 < cLine) : OpR X (compareOp .In) (rInD X.K false) := by
  refine OpR.or op_in_seq (OpR.or op_in_sign fun pins s σ H x y v u Q I rx ry h => ?_)
  obtain ⟨a, o, rfl, g, q⟩ := h
  cases ry
  exact d_in hu I g rx fun s' I' => ⟨.bl o.isSome, H, I', rfl, q⟩
theorem op_notInD (hu : X.A.units + 1 < cLine) : OpR X (compareOp .NotIn) (rInD X.K true) := by
  refine OpR.or op_notIn_seq (OpR.or op_notIn_sign fun pins s σ H x y v u Q I rx ry h => ?_)
  obtain ⟨a, o, rfl, g, q⟩ := h
  cases ry
  exact d_notIn hu I g rx fun s' I' => ⟨.bl (!o.isSome), H, I', rfl, q⟩
theorem in_ok {F H : Hp} {x y : D} {v u : V} {b : Bool} {Q : VK} (neg : Bool) (s : Same F H) (hx : Top K F H x v) (hy : Top K F H y u) (h : isIn x y = some b) (q : Q (.bl (if neg then !b else b)) H) : rInD K neg v u H Q := by
  have sq : ∀ (xs : List D) (vs : List V) (a : Addr), u = .ref a → (SqL K H a vs ∨ SqT K H a vs) → DvL K F xs vs → inSeq x xs = some b → rInD K neg v u H Q := by
    intro xs vs a e1 h1 t1 h
    unfold inSeq at h
    cases q1 : flat x with
    | none => rw [q1] at h; cases h
    | some x1 =>
      rw [q1] at h
      cases q2 : flatL xs with
      | none => rw [q2] at h; cases h
      | some x2 =>
        rw [q2] at h
        cases h
        obtain ⟨e3, f3⟩ := hx.flat q1
        obtain ⟨e4, f4⟩ := t1.flat q2
        subst e3 e4
        refine .inl ⟨a, _, e1, h1, f3, f4, ?_⟩
        cases neg <;> exact q
  have dq : (dget y x).map Option.isSome = some b → rInD K neg v u H Q := by
    intro h
    cases q1 : dget y x with
    | none => rw [q1] at h; cases h
    | some o =>
      rw [q1] at h
      cases h
      obtain ⟨a, r, e1, _, g, z⟩ := dget_ok s hy hx q1
      refine .inr (.inr ⟨a, r, e1, g, ?_⟩)
      rcases z with ⟨z1, z2⟩ | ⟨d', w, z1, z2, _⟩
      · subst z1 z2; cases neg <;> exact q
      · subst z1 z2; cases neg <;> exact q
  cases y with
  | lst xs =>
    obtain ⟨a, vs, e1, h1, t1⟩ := hy.lst s
    exact sq xs vs a e1 (.inl (SqL.of h1)) t1 h
  | tup xs =>
    obtain ⟨a, vs, e1, h1, t1⟩ := hy.tup s
    exact sq xs vs a e1 (.inr (SqT.of h1)) t1 h
  | str z =>
    dsimp only [isIn] at h
    cases x with
    | str a =>
      cases hx.str
      cases hy.str
      dsimp only at h
      split at h
      · rename_i c e
        cases h
        refine .inr (.inl ⟨c, z, ?_, rfl, ?_⟩)
        · obtain ⟨l⟩ := a
          have : l = #[c] := by
            apply Array.toList_inj.mp
            exact e
          rw [this]
        · cases neg <;> exact q
      · cases h
    | _ => cases h
  | _ => exact dq h
theorem v_in : V2 K (rInD K false) sIn := by
  intro F H d e v u Q s hd he p
  unfold sIn at p
  cases q : isIn d e with
  | none => rw [q] at p; exact p.elim
  | some b => rw [q] at p; exact in_ok false s hd he q (PV.f s p rfl)
theorem v_notIn : V2 K (rInD K true) sNotIn := by
  intro F H d e v u Q s hd he p
  unfold sNotIn at p
  cases q : isIn d e with
  | none => rw [q] at p; exact p.elim
  | some b => rw [q] at p; exact in_ok true s hd he q (PV.f s p rfl)

/-! ### subscripts -/
def sIx (d e : D) : Option Rn := match d with
  | .lst xs => match e with
    | .int i => (L2.atI xs i).map .f
    | _ => none
  | .tup xs => match e with
    | .int i => (L2.atI xs i).map .f
    | _ => none
  | .scr xs => match e with
    | .int i => (L2.atI xs i).map fun n => .f (.int n)
    | _ => none
  | _ => match dget d e with
    | some (some d') => some (.f d')
    | _ => none
def rIxD (K : PySem.W.Frag) : R2 := fun x y H Q => rIxL K x y H Q ∨ rIxT K x y H Q ∨ ∃ a v, x = .ref a ∧ DGet H a y (some v) ∧ Q v H
theorem ix_D (hu : X.A.units + 1 < cLine) : IxR X (rIxD X.K) := by
  refine ix_list.or (ix_tup.or fun value slice pins s σ H x y v u Q I rx ry h hs => ?_)
  obtain ⟨a, w, rfl, g, q⟩ := h
  cases rx
  exact tail_any (dict_typeIs I g) PySem.F.slot_dict_getitem.lookup (d_getItem hu I g ry fun w' s3 I3 rw' => ⟨w, H, I3, rw', q⟩) hs
theorem v_ix : V2 K (rIxD K) sIx := by
  intro F H d e v u Q s hd he p
  have dq : PV K F H Q (match dget d e with | some (some d') => some (.f d') | _ => none) → rIxD K v u H Q := by
    intro p
    cases q : dget d e with
    | none => rw [q] at p; exact p.elim
    | some o =>
      rw [q] at p
      cases o with
      | none => exact p.elim
      | some d' =>
        obtain ⟨a, r, e1, _, g, z⟩ := dget_ok s hd he q
        rcases z with ⟨z1, _⟩ | ⟨d2, w, z1, z2, dv⟩
        · cases z1
        · cases z1
          subst z2
          exact .inr (.inr ⟨a, w, e1, g, PV.f s p dv⟩)
  cases d with
  | lst xs =>
    cases e with
    | int i =>
      cases he.int
      obtain ⟨a, vs, e1, h1, t1⟩ := hd.lst s
      dsimp only [sIx] at p
      cases q : L2.atI xs i with
      | none => rw [q] at p; exact p.elim
      | some d' =>
        rw [q] at p
        obtain ⟨w, ew, dw⟩ := t1.atI q
        exact .inl ⟨a, vs, i, w, e1, rfl, SqL.of h1, ew, PV.f s p dw⟩
    | _ => exact p.elim
  | tup xs =>
    cases e with
    | int i =>
      cases he.int
      obtain ⟨a, vs, e1, h1, t1⟩ := hd.tup s
      dsimp only [sIx] at p
      cases q : L2.atI xs i with
      | none => rw [q] at p; exact p.elim
      | some d' =>
        rw [q] at p
        obtain ⟨w, ew, dw⟩ := t1.atI q
        exact .inr (.inl ⟨a, vs, i, w, e1, rfl, SqT.of h1, ew, PV.f s p dw⟩)
    | _ => exact p.elim
  | scr xs =>
    cases e with
    | int i =>
      cases he.int
      obtain ⟨a, e1, h1⟩ := hd.scr s
      dsimp only [sIx] at p
      cases q : L2.atI xs i with
      | none => rw [q] at p; exact p.elim
      | some n =>
        rw [q] at p
        have q' : L2.atI (xs.map V.int) i = some (.int n) := by
          unfold L2.atI at q ⊢
          rw [List.length_map]
          cases z : ixN xs.length i with
          | none => rw [z] at q; cases q
          | some j => rw [z] at q; simp only [Option.bind_some] at q ⊢; rw [List.getElem?_map, q]; rfl
        exact .inl ⟨a, _, i, _, e1, rfl, h1, q', PV.f s p rfl⟩
    | _ => exact p.elim
  | dK es => exact dq p
  | dT es => exact dq p
  | _ => exact dq p

/-! ### built-ins of one argument -/
def sLen : D → Option Rn
  | .lst xs => some (.f (.int xs.length))
  | .tup xs => some (.f (.int xs.length))
  | .scr xs => some (.f (.int xs.length))
  | .str z => if sz z.length = true then some (.f (.int z.length)) else none
  | .dK es => some (.f (.int es.length))
  | _ => none
theorem DvK.length {F : Hp} : ∀ {es : List (Key × D)} {kvs : List (Key × V)}, DvK K F es kvs → kvs.length = es.length
  | [], _, h => by cases h; rfl
  | (_, _) :: _, _, ⟨_, _, e, _, t⟩ => by subst e; simp [DvK.length t]
def rLenD (K : PySem.W.Frag) : List V → Hp → VK → Prop := fun xs H Q => (∃ p ys, xs = [.ref p] ∧ (SqL K H p ys ∨ SqT K H p ys) ∧ Q (.int ys.length) H) ∨ (∃ z, xs = [.str z] ∧ z.length ≤ sizeLine ∧ Q (.int z.length) H) ∨
  ∃ a kvs, xs = [V.ref a] ∧ Rd H a (.dK kvs) ∧ Q (.int kvs.length) H
theorem call_lenA : CallR X (.builtin "len") (rLenD X.K) := by
  refine call_len_seq.or (call_len_str.or fun pins s σ H xs us Q I r h => ?_)
  obtain ⟨a, kvs, rfl, ha, q⟩ := h
  obtain ⟨u, rfl, ru⟩ := vals1 r
  cases ru
  exact d_len I ha fun t s' I' => ⟨.int kvs.length, H, I', ⟨t, rfl⟩, q⟩
theorem v_len : V1 K (fun v H Q => rLenD K [v] H Q) sLen := by
  intro F H d v Q s hd p
  cases d with
  | lst xs =>
    obtain ⟨a, vs, e1, h1, t1⟩ := hd.lst s
    subst e1
    exact .inl ⟨a, vs, rfl, .inl (SqL.of h1), by rw [t1.length]; exact PV.f s p rfl⟩
  | tup xs =>
    obtain ⟨a, vs, e1, h1, t1⟩ := hd.tup s
    subst e1
    exact .inl ⟨a, vs, rfl, .inr (SqT.of h1), by rw [t1.length]; exact PV.f s p rfl⟩
  | scr xs =>
    obtain ⟨a, e1, h1⟩ := hd.scr s
    subst e1
    exact .inl ⟨a, _, rfl, .inl h1, by rw [List.length_map]; exact PV.f s p rfl⟩
  | str z =>
    cases hd.str
    dsimp only [sLen] at p
    split at p
    · rename_i q; exact .inr (.inl ⟨z, rfl, sz_le q, PV.f s p rfl⟩)
    · exact p.elim
  | dK es =>
    obtain ⟨a, vs, e1, h1, t1⟩ := hd.dK s
    subst e1
    exact .inr (.inr ⟨a, vs, rfl, h1, by rw [t1.length]; exact PV.f s p rfl⟩)
  | _ => exact p.elim
def sSum : D → Option Rn
  | .lst xs => (asInts xs).map fun ns => .f (.int ns.sum)
  | _ => none
theorem v_sum : V1 K (fun v H Q => rSum K [v] H Q) sSum := by
  intro F H d v Q s hd p
  cases d with
  | lst xs =>
    obtain ⟨a, vs, e1, h1, t1⟩ := hd.lst s
    dsimp only [sSum] at p
    cases q : asInts xs with
    | none => rw [q] at p; exact p.elim
    | some ns =>
      rw [q] at p
      have e := asInts_eq q
      subst e e1
      rw [t1.ints] at h1
      exact ⟨a, ns, rfl, SqL.of h1, PV.f s p rfl⟩
  | _ => exact p.elim
def sAll : D → Option Rn
  | .lst xs => (asBls xs).map fun ns => .f (.bl (ns.all id))
  | _ => none
theorem v_all : V1 K (fun v H Q => rAll K [v] H Q) sAll := by
  intro F H d v Q s hd p
  cases d with
  | lst xs =>
    obtain ⟨a, vs, e1, h1, t1⟩ := hd.lst s
    dsimp only [sAll] at p
    cases q : asBls xs with
    | none => rw [q] at p; exact p.elim
    | some ns =>
      rw [q] at p
      have e := asBls_eq q
      subst e e1
      rw [t1.bls] at h1
      exact ⟨a, ns, rfl, SqL.of h1, PV.f s p rfl⟩
  | _ => exact p.elim
/-- the greatest -/
def maxI : List Int → Int
  | [] => 0
  | n :: ns => ns.foldl (fun m x => if x > m then x else m) n
theorem maxI_fold : ∀ (ns : List Int) (m : Int), m ≤ ns.foldl (fun m x => if x > m then x else m) m ∧ (∀ y ∈ ns, y ≤ ns.foldl (fun m x => if x > m then x else m) m) ∧ (ns.foldl (fun m x => if x > m then x else m) m = m ∨ ns.foldl (fun m x => if x > m then x else m) m ∈ ns)
  | [], m => ⟨Int.le_refl _, by simp, .inl rfl⟩
  | n :: ns, m => by
    obtain ⟨h1, h2, h3⟩ := maxI_fold ns (if n > m then n else m)
    rw [List.foldl_cons]
    refine ⟨?_, fun y hy => ?_, ?_⟩
    · exact Int.le_trans (by split <;> omega) h1
    · rcases List.mem_cons.mp hy with z | z
      · subst z; exact Int.le_trans (by split <;> omega) h1
      · exact h2 y z
    · rcases h3 with z | z
      · by_cases q : n > m
        · rw [if_pos q] at z ⊢; exact .inr (List.mem_cons.mpr (.inl z))
        · rw [if_neg q] at z ⊢; exact .inl z
      · exact .inr (List.mem_cons_of_mem _ z)
theorem maxI_le {ns : List Int} {y : Int} (h : y ∈ ns) : y ≤ maxI ns := by
  cases ns with
  | nil => cases h
  | cons n ns =>
    obtain ⟨h1, h2, _⟩ := maxI_fold ns n
    rcases List.mem_cons.mp h with z | z
    · subst z; exact h1
    · exact h2 y z
theorem maxI_mem {ns : List Int} (h : ns ≠ []) : maxI ns ∈ ns := by
  cases ns with
  | nil => exact absurd rfl h
  | cons n ns =>
    obtain ⟨_, _, h3⟩ := maxI_fold ns n
    rcases h3 with z | z
    · show ns.foldl _ n ∈ _; rw [z]; exact List.mem_cons_self
    · exact List.mem_cons_of_mem _ z
theorem maxI_eq {ns : List Int} {m : Int} (h : m ∈ ns) (g : ∀ y ∈ ns, y ≤ m) : m = maxI ns := by
  have h1 := maxI_le h
  have h2 := g _ (maxI_mem (List.ne_nil_of_mem h))
  omega
def sMax : D → Option Rn
  | .lst xs => match asInts xs with
    | some ns => if ns.isEmpty = true then none else some (.f (.int (maxI ns)))
    | none => none
  | _ => none
theorem v_max : V1 K (fun v H Q => rMax K [v] H Q) sMax := by
  intro F H d v Q s hd p
  cases d with
  | lst xs =>
    obtain ⟨a, vs, e1, h1, t1⟩ := hd.lst s
    dsimp only [sMax] at p
    cases q : asInts xs with
    | none => rw [q] at p; exact p.elim
    | some ns =>
      rw [q] at p
      dsimp only at p
      have e := asInts_eq q
      subst e e1
      rw [t1.ints] at h1
      split at p
      · exact p.elim
      · rename_i z
        refine ⟨a, ns, rfl, SqL.of h1, ?_, fun m hm hg => ?_⟩
        · cases ns with
          | nil => exact absurd rfl z
          | cons _ _ => simp
        · rw [maxI_eq hm hg]
          exact PV.f s p rfl
    
  | _ => exact p.elim
def sMax2 : D → D → Option Rn
  | .int i, .int j => some (.f (.int (if j > i then j else i)))
  | _, _ => none
def sMin2 : D → D → Option Rn
  | .int i, .int j => some (.f (.int (if j < i then j else i)))
  | _, _ => none
theorem v_max2 : V2 K (fun v u H Q => ∃ i j, [v, u] = [.int i, .int j] ∧ Q (.int (if j > i then j else i)) H) sMax2 := by
  intro F H d e v u Q s hd he p
  cases d with
  | int i =>
    cases e with
    | int j => cases hd.int; cases he.int; exact ⟨i, j, rfl, p.f s rfl⟩
    | _ => exact p.elim
  | _ => exact p.elim
theorem v_min2 : V2 K (fun v u H Q => ∃ i j, [v, u] = [.int i, .int j] ∧ Q (.int (if j < i then j else i)) H) sMin2 := by
  intro F H d e v u Q s hd he p
  cases d with
  | int i =>
    cases e with
    | int j => cases hd.int; cases he.int; exact ⟨i, j, rfl, p.f s rfl⟩
    | _ => exact p.elim
  | _ => exact p.elim
def sTupleOf : D → Option Rn
  | .lst xs => some (.f (.tup xs))
  | .tup xs => some (.f (.tup xs))
  | _ => none
theorem v_tupleOf : V1 K (fun v H Q => ∃ p ys, [v] = [V.ref p] ∧ ((SqL K H p ys ∧ ∀ l, H l = none → Q (.ref l) (upd H l (.tup ys))) ∨ (SqT K H p ys ∧ Q (.ref p) H))) sTupleOf := by
  intro F H d v Q s hd p
  cases d with
  | lst xs =>
    obtain ⟨a, vs, e1, h1, t1⟩ := hd.lst s
    subst e1
    exact ⟨a, vs, rfl, .inl ⟨SqL.of h1, fun l n => PV.newT s p t1 l n⟩⟩
  | tup xs =>
    obtain ⟨a, vs, e1, h1, t1⟩ := hd.tup s
    subst e1
    refine ⟨a, vs, rfl, .inr ⟨SqT.of h1, PV.f s p ?_⟩⟩
    rcases hd with hd | ⟨_, _, hd⟩
    · exact hd
    · exact hd.elim
  | _ => exact p.elim
def sListOf : D → Option Rn
  | .lst xs => some (.t (.lst xs))
  | .tup xs => some (.t (.lst xs))
  | _ => none
theorem v_listOf : V1 K (fun v H Q => ∃ p ys, [v] = [V.ref p] ∧ (SqL K H p ys ∨ SqT K H p ys) ∧ ∀ l, H l = none → Q (.ref l) (upd H l (.lst ys))) sListOf := by
  intro F H d v Q s hd p
  cases d with
  | lst xs =>
    obtain ⟨a, vs, e1, h1, t1⟩ := hd.lst s
    subst e1
    exact ⟨a, vs, rfl, .inl (SqL.of h1), fun l n => PV.newL s p t1 l n⟩
  | tup xs =>
    obtain ⟨a, vs, e1, h1, t1⟩ := hd.tup s
    subst e1
    exact ⟨a, vs, rfl, .inr (SqT.of h1), fun l n => PV.newL s p t1 l n⟩
  | _ => exact p.elim
end DL

namespace DL
open PySem PySem.Spec PyProof.Rows L2
variable [TabCtx] {K : PySem.W.Frag} {X : Cx} {W : WN}
section
variable {H0 F0 F1 : Hp} {ts : List (Addr × D)} {env : Cs} {F F' H H' : Hp} {σ : L2.St} {v : V} {d : D} {a : Addr}
theorem get_set {α : Type} {l : List α} {i j : Nat} {x c : α} (h : (l.set i x)[j]? = some c) : (j = i ∧ c = x ∧ i < l.length) ∨ (j ≠ i ∧ l[j]? = some c) := by
  by_cases q : j = i
  · subst q
    by_cases hl : j < l.length
    · rw [List.getElem?_set_self hl] at h
      cases h
      exact .inl ⟨rfl, rfl, hl⟩
    · rw [List.getElem?_eq_none (by simpa using hl)] at h
      cases h
  · rw [List.getElem?_set_ne (Ne.symm q)] at h
    exact .inr ⟨q, h⟩
/-- a cell that holds nothing of its own is stored -/
theorem Rs.storeC (r : Rs K H0 F0 ts env F σ H) {i : Nat} {c : Cell} {o : Option V} (hc : CellOk K H0 F H c (some o)) (hn : ∀ d, c ≠ .own d) : Rs K H0 F0 ts (env.set i c) F (σ.set i o) H := by
  refine { r with len := by simpa using r.len, cells := fun j c' e => ?_, dj := fun j k d1 d2 b e1 e2 s1 s2 => ?_, tdj := fun j d' b e1 s1 => ?_ }
  · rcases get_set e with ⟨q, rfl, hl⟩ | ⟨q, e⟩
    · subst q
      rw [List.getElem?_set_self (by rw [← r.len]; exact hl)]
      exact hc
    · rw [List.getElem?_set_ne (Ne.symm q)]
      exact r.cells j c' e
  · rcases get_set e1 with ⟨_, z, _⟩ | ⟨q1, e1⟩
    · exact absurd z.symm (hn _)
    · rcases get_set e2 with ⟨_, z, _⟩ | ⟨q2, e2⟩
      · exact absurd z.symm (hn _)
      · rw [List.getElem?_set_ne (Ne.symm q1)] at s1
        rw [List.getElem?_set_ne (Ne.symm q2)] at s2
        exact r.dj j k d1 d2 b e1 e2 s1 s2
  · rcases get_set e1 with ⟨_, z, _⟩ | ⟨q1, e1⟩
    · exact absurd z.symm (hn _)
    · rw [List.getElem?_set_ne (Ne.symm q1)] at s1
      exact r.tdj j d' b e1 s1
theorem Rs.store (r : Rs K H0 F0 ts env F σ H) (i : Nat) (h : Dv K F d v) : Rs K H0 F0 ts (env.set i (.frz d)) F (σ.set i (some v)) H := r.storeC ⟨v, rfl, h⟩ fun _ z => nomatch z
theorem Rs.forget (r : Rs K H0 F0 ts env F σ H) (i : Nat) (o : Option V) : Rs K H0 F0 ts (env.set i .un) F (σ.set i o) H := r.storeC (c := .un) trivial fun _ z => nomatch z
theorem Rs.storeOwn (r : Rs K H0 F0 ((a, d) :: ts) env F σ H) (i : Nat) : Rs K H0 F0 ts (env.set i (.own d)) F (σ.set i (some (.ref a))) H := by
  obtain ⟨o, nf, n0⟩ := r.tmp (a, d) List.mem_cons_self
  have hd := List.nodup_cons.mp r.tnd
  refine { r with len := by simpa using r.len, cells := fun j c' e => ?_, dj := fun j k d1 d2 b e1 e2 s1 s2 => ?_, tmp := fun p hp => r.tmp p (List.mem_cons_of_mem _ hp), tnd := hd.2, tdj := fun j d' b e1 s1 => ?_ }
  · rcases get_set e with ⟨q, rfl, hl⟩ | ⟨q, e⟩
    · subst q
      rw [List.getElem?_set_self (by rw [← r.len]; exact hl)]
      exact ⟨a, rfl, o, nf, n0⟩
    · rw [List.getElem?_set_ne (Ne.symm q)]
      exact r.cells j c' e
  · rcases get_set e1 with ⟨q1, z1, l1⟩ | ⟨q1, f1⟩
    · rcases get_set e2 with ⟨q2, _, _⟩ | ⟨q2, f2⟩
      · rw [q1, q2]
      · subst q1
        rw [List.getElem?_set_self (by rw [← r.len]; exact l1)] at s1
        rw [List.getElem?_set_ne (Ne.symm q2)] at s2
        cases s1
        exact absurd List.mem_cons_self (r.tdj k d2 a f2 s2)
    · rcases get_set e2 with ⟨q2, z2, l2⟩ | ⟨q2, f2⟩
      · subst q2
        rw [List.getElem?_set_self (by rw [← r.len]; exact l2)] at s2
        rw [List.getElem?_set_ne (Ne.symm q1)] at s1
        cases s2
        exact absurd List.mem_cons_self (r.tdj j d1 a f1 s1)
      · rw [List.getElem?_set_ne (Ne.symm q1)] at s1
        rw [List.getElem?_set_ne (Ne.symm q2)] at s2
        exact r.dj j k d1 d2 b f1 f2 s1 s2
  · rcases get_set e1 with ⟨q1, z1, l1⟩ | ⟨q1, e1⟩
    · subst q1
      rw [List.getElem?_set_self (by rw [← r.len]; exact l1)] at s1
      cases s1
      exact hd.1
    · rw [List.getElem?_set_ne (Ne.symm q1)] at s1
      exact fun m => r.tdj j d' b e1 s1 (List.mem_cons_of_mem _ m)
/-- the owned object of a slot changes -/
theorem Rs.write (r : Rs K H0 F0 ts env F σ H) {i : Nat} {d' : D} {o : HO} (hi : env[i]? = some (.own d)) (hs : σ[i]? = some (some (.ref a))) (h : OwnAt K F (upd H a o) a d') : Rs K H0 F0 ts (env.set i (.own d')) F σ (upd H a o) := by
  obtain ⟨a0, e0, oa, nf, n0⟩ := r.cells i _ hi
  rw [hs] at e0
  cases e0
  obtain ⟨u, hu, hu1, hu2⟩ := oa.mut
  have old : ∀ {j : Nat} {d2 : D}, (env.set i (.own d'))[j]? = some (.own d2) → ∃ d3, env[j]? = some (.own d3) := fun {j d2} e => by
    rcases get_set e with ⟨q, _, _⟩ | ⟨_, e⟩
    · subst q; exact ⟨d, hi⟩
    · exact ⟨d2, e⟩
  refine { r with fh := fun b u e => ?_, h0 := r.h0.write n0 hu hu1 hu2, tb := tabs_upd r.tb hu hu1 hu2, len := by simpa using r.len, cells := fun j c e => ?_, dj := fun j k d1 d2 b e1 e2 s1 s2 => ?_, tmp := fun p hp => ?_, tdj := fun j d2 b e1 s1 => ?_ }
  · rw [upd_ne (ne_of_none e nf)]; exact r.fh _ _ e
  · rcases get_set e with ⟨q, rfl, _⟩ | ⟨q, e⟩
    · subst q
      exact ⟨a, hs, h, nf, n0⟩
    · have c0 := r.cells j c e
      cases c with
      | un => trivial
      | frz d2 => exact c0
      | own d2 =>
        obtain ⟨b, e1, h1, n1, z1⟩ := c0
        have ne : b ≠ a := fun z => q (r.dj j i d2 d a e hi (by rw [← z]; exact e1) hs)
        exact ⟨b, e1, h1.mono (.refl _) fun o q _ => by rw [upd_ne ne]; exact q, n1, z1⟩
  · obtain ⟨d3, e3⟩ := old e1
    obtain ⟨d4, e4⟩ := old e2
    exact r.dj j k d3 d4 b e3 e4 s1 s2
  · obtain ⟨h1, n1, z1⟩ := r.tmp p hp
    have ne : p.1 ≠ a := fun q => r.tdj i d a hi hs (by rw [← q]; exact List.mem_map.mpr ⟨p, hp, rfl⟩)
    exact ⟨h1.mono (.refl _) fun o q _ => by rw [upd_ne ne]; exact q, n1, z1⟩
  · obtain ⟨d3, e3⟩ := old e1
    exact r.tdj j d3 b e3 s1
/-- the temporary on top changes -/
theorem Rs.writeT (r : Rs K H0 F0 ((a, d) :: ts) env F σ H) {d' : D} {o : HO} (h : OwnAt K F (upd H a o) a d') : Rs K H0 F0 ((a, d') :: ts) env F σ (upd H a o) := by
  obtain ⟨oa, nf, n0⟩ := r.tmp (a, d) List.mem_cons_self
  obtain ⟨u, hu, hu1, hu2⟩ := oa.mut
  have hu : H a = some u := hu
  have hd := List.nodup_cons.mp r.tnd
  have nf : F a = none := nf
  have n0 : NT H0 a := n0
  refine { r with fh := fun b u e => ?_, h0 := r.h0.write n0 hu hu1 hu2, tb := tabs_upd r.tb hu hu1 hu2, cells := fun j c e => ?_, tmp := fun p hp => ?_ }
  · rw [upd_ne (ne_of_none e nf)]; exact r.fh _ _ e
  · have c0 := r.cells j c e
    cases c with
    | un => trivial
    | frz d2 => exact c0
    | own d2 =>
      obtain ⟨b, e1, h1, n1, z1⟩ := c0
      have ne : b ≠ a := fun z => r.tdj j d2 b e e1 (by rw [z]; exact List.mem_cons_self)
      exact ⟨b, e1, h1.mono (.refl _) fun o q _ => by rw [upd_ne ne]; exact q, n1, z1⟩
  · rcases List.mem_cons.mp hp with rfl | hp
    · exact ⟨h, nf, n0⟩
    · obtain ⟨h1, n1, z1⟩ := r.tmp p (List.mem_cons_of_mem _ hp)
      have ne : p.1 ≠ a := fun q => hd.1 (by show a ∈ _; rw [← q]; exact List.mem_map.mpr ⟨p, hp, rfl⟩)
      exact ⟨h1.mono (.refl _) fun o q _ => by rw [upd_ne ne]; exact q, n1, z1⟩
theorem Rs.ext0 (r : Rs K H0 F0 ts env F σ H) : Ext F0 H0 F H := ⟨r.h0, fun _ => r.nf, r.f0, r.fh, r.nw⟩
/-- from a later fixed part on -/
theorem Rs.from_ (r : Rs K H0 F0 ts env F σ H) : Rs K H0 F ts env F σ H := { r with f0 := .refl _, nw := fun _ h => .inl h }
theorem Ext.from_ (r : Rs K H0 F0 ts env F σ H) (x : Ext F H0 F' H') : Ext F0 H0 F' H' := ⟨x.hh, fun _ => x.nt r.nf, r.f0.trans x.ff, x.fh, fun b h => by
  rcases x.nw b h with q | q | q
  · rcases r.nw b q with z | z | ⟨xs, z⟩
    · exact .inl z
    · exact .inr (.inl z)
    · exact .inr (.inr ⟨xs, x.ff _ _ z⟩)
  · exact .inr (.inl q)
  · exact .inr (.inr q)⟩
theorem Rs.back {ts' : List (Addr × D)} {env' : Cs} {σ' : L2.St} (r : Rs K H0 F0 ts env F σ H) (x : Rs K H0 F ts' env' F' σ' H') : Rs K H0 F0 ts' env' F' σ' H' :=
  have e := Ext.from_ r x.ext0
  { x with f0 := e.ff, nw := e.nw }
end

/-! ### a name of the def's own may become the fixed part's -/
def gNl (g : Cs → Out RV) : Cs → Out RV := fun env => (g env).bind fun r env1 => match r with
  | .loc i => (settle env1 (.loc i)).bind fun d env2 => .ok (.frz d) env2
  | .frz d => .ok (.frz d) env1
  | .tmp d => .ok (.tmp d) env1
theorem DE.nl {e : Expr} {g : Cs → Out RV} (h : DE X W e g) : DE X W e (gNl g) := by
  intro H0 F0 ts env F σ H Q R p
  refine (h H0 F0 ts env F σ H (fun v H' => Gh (Q v) H') R ?_).gh
  unfold gNl at p
  cases q : g env with
  | stuck => rw [q] at p; exact p.elim
  | exc c => rw [q] at p; exact p
  | ok r env1 =>
    rw [q] at p
    intro v F' H' R' hd s
    dsimp only [Out.bind] at p
    cases r with
    | frz d => exact .done (p v F' H' R' hd s)
    | tmp d => exact .done (p v F' H' R' hd s)
    | loc i =>
      dsimp only at p
      cases z : settle env1 (.loc i) with
      | stuck => rw [z] at p; exact p.elim
      | exc c => dsimp only [settle] at z; split at z <;> cases z
      | ok d env2 =>
        rw [z] at p
        refine (Held.settle R' hd z).imp fun H2 ⟨F2, s2, R2, dv⟩ => ?_
        exact p v F2 H2 R2 dv (s.trans s2)

/-! ### statements -/
inductive OS where
  | stuck
  | exc (c : Str)
  | nx (env : Cs)
  | rt (r : Rn)
  | bk (env : Cs)
  | ct (env : Cs)
def Out.bs {α : Type} : Out α → (α → Cs → OS) → OS
  | .stuck, _ => .stuck
  | .exc c, _ => .exc c
  | .ok x env, f => f x env
def sS (X : Cx) (st : Stmt) : TS := fun D σ H => Bx (∀ (pins : List (Addr × Obj)) (s : Shared), Inv X pins σ H s → wpAny (model X.prog X.w) X.A (exec st X.env) (SP X pins D) X.xe s)
def bS (X : Cx) (st : List Stmt) : TS := fun D σ H => Bx (∀ (pins : List (Addr × Obj)) (s : Shared), Inv X pins σ H s → wpAny (model X.prog X.w) X.A (execs st X.env) (SP X pins D) X.xe s)
theorem ps_sem {st : Stmt} : PS X st (sS X st) := ⟨fun pins s _ _ _ I h => h.out pins s I⟩
theorem pss_sem {st : List Stmt} : PSs X st (bS X st) := ⟨fun pins s _ _ _ I h => h.out pins s I⟩
theorem PS.sem {st : Stmt} {t : TS} (h : PS X st t) {σ : L2.St} {H : Hp} {D : Ends} (q : t D σ H) : sS X st D σ H := .mk fun pins s I => h.run pins s σ H D I q
theorem PSs.sem {st : List Stmt} {t : TS} (h : PSs X st t) {σ : L2.St} {H : Hp} {D : Ends} (q : t D σ H) : bS X st D σ H := .mk fun pins s I => h.run pins s σ H D I q
def PoS (K : PySem.W.Frag) (W : WN) (H0 F0 : Hp) (D : Ends) : OS → Prop
  | .stuck => False
  | .exc c => ∀ H', Kp H0 H' → W c H'
  | .nx env => ∀ F' σ' H', Rs K H0 F0 [] env F' σ' H' → D.nx σ' H'
  | .rt r => PV K F0 H0 D.rt (some r)
  | .bk env => ∀ F' σ' H', Rs K H0 F0 [] env F' σ' H' → D.bk σ' H'
  | .ct env => ∀ F' σ' H', Rs K H0 F0 [] env F' σ' H' → D.ct σ' H'
def DS (X : Cx) (W : WN) (st : Stmt) (g : Cs → OS) : Prop := ∀ (H0 F0 : Hp) (env : Cs) (F : Hp) (σ : L2.St) (H : Hp) (D : Ends),
  Rs X.K H0 F0 [] env F σ H → PoS X.K W H0 F0 D (g env) → sS X st D σ H
def DB (X : Cx) (W : WN) (st : List Stmt) (g : Cs → OS) : Prop := ∀ (H0 F0 : Hp) (env : Cs) (F : Hp) (σ : L2.St) (H : Hp) (D : Ends),
  Rs X.K H0 F0 [] env F σ H → PoS X.K W H0 F0 D (g env) → bS X st D σ H
def sSeq (g h : Cs → OS) : Cs → OS := fun env => match g env with
  | .nx env1 => h env1
  | o => o
def sNx : Cs → OS := fun env => .nx env
theorem db_nil : DB X W [] sNx := fun H0 F0 env F σ H D R p => PSs.sem pss_nil (p F σ H R)
theorem db_cons {st : Stmt} {rest : List Stmt} {g h : Cs → OS} (h1 : DS X W st g) (h2 : DB X W rest h) : DB X W (st :: rest) (sSeq g h) := by
  intro H0 F0 env F σ H D R p
  refine PSs.sem (pss_cons ps_sem pss_sem) (h1 H0 F0 env F σ H _ R ?_)
  unfold sSeq at p
  cases q : g env with
  | nx env1 =>
    rw [q] at p
    exact fun F' σ' H' R' => h2 H0 F0 env1 F' σ' H' D R' p
  | stuck => rw [q] at p; exact p.elim
  | exc c => rw [q] at p; exact p
  | rt r => rw [q] at p; exact p
  | bk e => rw [q] at p; exact p
  | ct e => rw [q] at p; exact p
theorem db_one {st : Stmt} {g : Cs → OS} (h1 : DS X W st g) : DB X W [st] g := fun H0 F0 env F σ H D R p => PSs.sem (pss_one ps_sem) (h1 H0 F0 env F σ H D R p)
def sBk : Cs → OS := fun env => .bk env
def sCt : Cs → OS := fun env => .ct env
def sNo : Cs → OS := fun _ => .stuck
theorem ds_pass {pos : Pos} : DS X W (.Pass pos) sNx := fun H0 F0 env F σ H D R p => PS.sem ps_pass (p F σ H R)
theorem ds_break {pos : Pos} : DS X W (.Break pos) sBk := fun H0 F0 env F σ H D R p => PS.sem ps_break (p F σ H R)
theorem ds_continue {pos : Pos} : DS X W (.Continue pos) sCt := fun H0 F0 env F σ H D R p => PS.sem ps_continue (p F σ H R)
theorem ds_never {st : Stmt} : DS X W st sNo := fun _ _ _ _ _ _ _ _ p => p.elim
def sEx (g : Cs → Out RV) : Cs → OS := fun env => (g env).bs fun _ env1 => .nx env1
theorem ds_expr {e : Expr} {g : Cs → Out RV} {pos : Pos} (h : DE X W e g) (hs : swapsWith e none pos.line X.env = pure false := by rfl) : DS X W (.Expr e pos) (sEx g) := by
  intro H0 F0 env F σ H D R p
  refine PS.sem (ps_expr pe_sem hs) (h H0 F0 [] env F σ H _ R ?_)
  unfold sEx at p
  cases q : g env with
  | stuck => rw [q] at p; exact p.elim
  | exc c => rw [q] at p; exact p
  | ok r env1 => rw [q] at p; exact fun v F' H' R' _ _ => p F' σ H' R'.untmp
def retOf (env : Cs) : RV → OS
  | .frz d => .rt (.f d)
  | .tmp d => .rt (.t d)
  | .loc i => match env[i]? with
    | some (.own d) => .rt (.t d)
    | some (.frz d) => .rt (.f d)
    | _ => .stuck
def sRet (g : Cs → Out RV) : Cs → OS := fun env => (g env).bs fun r env1 => retOf env1 r
theorem ds_ret {e : Expr} {g : Cs → Out RV} {pos : Pos} (h : DE X W e g) : DS X W (.Return (some e) pos) (sRet g) := by
  intro H0 F0 env F σ H D R p
  refine PS.sem (ps_ret pe_sem) (h H0 F0 [] env F σ H _ R ?_)
  unfold sRet at p
  cases q : g env with
  | stuck => rw [q] at p; exact p.elim
  | exc c => rw [q] at p; exact p
  | ok r env1 =>
    rw [q] at p
    dsimp only [Out.bs] at p
    intro v F' H' R' hd _
    cases r with
    | frz d => exact p v F' H' R'.ext0 hd
    | tmp d =>
      obtain ⟨a, rfl, m⟩ := hd
      obtain ⟨o, nf, n0⟩ := R'.tmp _ m
      exact p a F' H' R'.ext0 n0 nf o
    | loc i =>
      have hd : σ[i]? = some (some v) := hd
      dsimp only [retOf] at p
      split at p
      · rename_i d e
        obtain ⟨a, e1, o, nf, n0⟩ := R'.cells i _ e
        rw [hd] at e1
        cases e1
        exact p a F' H' R'.ext0 n0 nf o
      · rename_i d e
        obtain ⟨v', e1, o⟩ := R'.cells i _ e
        rw [hd] at e1
        cases e1
        exact p v F' H' R'.ext0 o
      · exact p.elim
def sIf (c : Cs → Out Bool) (g h : Cs → OS) : Cs → OS := fun env => (c env).bs fun b env1 => if b = true then g env1 else h env1
theorem ds_if {c : Expr} {a b : List Stmt} {gc : Cs → Out Bool} {g h : Cs → OS} {pos : Pos} (hc : DT X W c gc) (ha : DB X W a g) (hb : DB X W b h) : DS X W (.If c a b pos) (sIf gc g h) := by
  intro H0 F0 env F σ H D R p
  refine PS.sem (ps_if pt_sem pss_sem pss_sem) (hc H0 F0 [] env F σ H _ R ?_)
  unfold sIf at p
  cases q : gc env with
  | stuck => rw [q] at p; exact p.elim
  | exc c => rw [q] at p; exact p
  | ok b env1 =>
    rw [q] at p
    dsimp only [Out.bs] at p
    intro F' H' R' _
    cases b with
    | true => rw [if_pos rfl] at p ⊢; exact ha H0 F0 env1 F' σ H' D R' p
    | false => rw [if_neg (by decide)] at p ⊢; exact hb H0 F0 env1 F' σ H' D R' p
/-! ### stores -/
def cellOf : RV → Cell
  | .frz d => .frz d
  | .tmp d => .own d
  | .loc _ => .un
def sSet (i : Nat) (g : Cs → Out RV) : Cs → OS := fun env => (gNl g env).bs fun r env1 => .nx (env1.set i (cellOf r))
theorem Rs.cell {H0 F0 : Hp} {ts : List (Addr × D)} {env : Cs} {F H : Hp} {σ : L2.St} {r : RV} {v : V} (R : Rs K H0 F0 (tsOf ts r v) env F σ H) (h : Held K (tsOf ts r v) F σ r v) (i : Nat) : Rs K H0 F0 ts (env.set i (cellOf r)) F (σ.set i (some v)) H := by
  cases r with
  | frz d => exact Rs.store R i h
  | tmp d =>
    obtain ⟨a, rfl, _⟩ := h
    exact Rs.storeOwn R i
  | loc j => exact Rs.forget R i _
theorem ds_set (i : Nat) {x : Str} {e : Expr} {g : Cs → Out RV} {pos pos' : Pos} (hN : X.N.Nodup) (hi : X.N[i]? = some x) (hx : Loc X.env.scope x) (h : DE X W e g) (hs : swapsWith e (some (.Name x pos')) pos.line X.env = pure false := by rfl)
    (hf : X.fn x = true ∨ X.env.scope.names.lookup x = some .local := by first | exact .inl rfl | exact .inr rfl | assumption) : DS X W (.Assign [.Name x pos'] e pos) (sSet i g) := by
  intro H0 F0 env F σ H D R p
  refine PS.sem (ps_set hN hi hx pe_sem hs hf) (h.nl H0 F0 [] env F σ H _ R ?_)
  unfold sSet at p
  cases q : gNl g env with
  | stuck => rw [q] at p; exact p.elim
  | exc c => rw [q] at p; exact p
  | ok r env1 => rw [q] at p; exact fun v F' H' R' hd _ => p F' _ H' (R'.cell hd i)
/-- what values a half-done tuple holds -/
def PoR (K : PySem.W.Frag) (W : WN) (H0 F0 : Hp) (ts : List (Addr × D)) (F : Hp) (σ : L2.St) (Q : List V → Hp → Prop) (env' : Out (List RV)) : Prop := match env' with
  | .stuck => False
  | .exc c => ∀ H', Kp H0 H' → W c H'
  | .ok rs env => ∀ vs ts' F' H', Rs K H0 F0 ts' env F' σ H' → (∀ p ∈ ts, p ∈ ts') → Paired (Held K ts' F' σ) rs vs → Q vs H'

/-! ### targets -/
def tgS (X : Cx) (tg : Expr) : TG := fun v σ H Q => Bx (∀ (pins : List (Addr × Obj)) (s : Shared) (u : Value), Inv X pins σ H s → RelV v u → wpAny (model X.prog X.w) X.A (assign tg X.env u) (fun _ s' => ∃ σ' H', Inv X pins σ' H' s' ∧ Q σ' H') X.xe s)
theorem pg_sem {tg : Expr} : PG X tg (tgS X tg) := ⟨fun pins s _ _ _ u _ I r h => h.out pins s u I r⟩
theorem PG.sem {tg : Expr} {t : TG} (h : PG X tg t) {v : V} {σ : L2.St} {H : Hp} {Q : L2.St → Hp → Prop} (q : t v σ H Q) : tgS X tg v σ H Q := .mk fun pins s u I r => h.run pins s σ H v u Q I r q
/-- the slots but those of sl are as they were -/
def Only (sl : List Nat) (σ σ' : L2.St) : Prop := σ'.length = σ.length ∧ ∀ j, j ∉ sl → σ'[j]? = σ[j]?
theorem Only.refl (σ : L2.St) : Only [] σ σ := ⟨rfl, fun _ _ => rfl⟩
theorem Only.set (σ : L2.St) (i : Nat) (o : Option V) : Only [i] σ (σ.set i o) := ⟨by simp, fun j h => List.getElem?_set_ne (fun z => h (by simp [z]))⟩
theorem Only.trans {sl sl' : List Nat} {σ σ1 σ2 : L2.St} (a : Only sl σ σ1) (b : Only sl' σ1 σ2) : Only (sl ++ sl') σ σ2 := ⟨b.1.trans a.1, fun j h => (b.2 j fun z => h (List.mem_append_right _ z)).trans (a.2 j fun z => h (List.mem_append_left _ z))⟩
/-- a target to which a datum of the fixed part goes; sl: its slots -/
def DG (X : Cx) (tg : Expr) (sl : List Nat) (gt : D → Cs → Option Cs) : Prop := ∀ (H0 F0 : Hp) (ts : List (Addr × D)) (env : Cs) (F : Hp) (σ : L2.St) (H : Hp) (d : D) (v : V) (env' : Cs) (Q : L2.St → Hp → Prop),
  Rs X.K H0 F0 ts env F σ H → Dv X.K F d v → gt d env = some env' → (∀ σ', Rs X.K H0 F0 ts env' F σ' H → Only sl σ σ' → Q σ' H) → tgS X tg v σ H Q
def DGs (X : Cx) (tgs : List Expr) (sl : List Nat) (gt : List D → Cs → Option Cs) : Prop := ∃ t : TGs, PGs X tgs t ∧ ∀ (H0 F0 : Hp) (ts : List (Addr × D)) (env : Cs) (F : Hp) (σ : L2.St) (H : Hp) (ds : List D) (vs : List V) (env' : Cs) (Q : L2.St → Hp → Prop),
  Rs X.K H0 F0 ts env F σ H → DvL X.K F ds vs → gt ds env = some env' → (∀ σ', Rs X.K H0 F0 ts env' F σ' H → Only sl σ σ' → Q σ' H) → t vs σ H Q
def tN (i : Nat) : D → Cs → Option Cs := fun d env => some (env.set i (.frz d))
theorem dg_name (i : Nat) {x : Str} {pos : Pos} (hN : X.N.Nodup) (hi : X.N[i]? = some x) (hx : Loc X.env.scope x) (hf : X.fn x = true ∨ X.env.scope.names.lookup x = some .local := by first | exact .inl rfl | exact .inr rfl | assumption) : DG X (.Name x pos) [i] (tN i) := by
  intro H0 F0 ts env F σ H d v env' Q R hd e q
  cases e
  exact PG.sem (pg_name hN hi hx hf) (q _ (R.store i hd) (Only.set σ i _))
def tNil' : List D → Cs → Option Cs
  | [], env => some env
  | _, _ => none
def tCons' (t : D → Cs → Option Cs) (u : List D → Cs → Option Cs) : List D → Cs → Option Cs
  | d :: ds, env => (t d env).bind fun env1 => u ds env1
  | _, _ => none
theorem dgs_nil : DGs X [] [] tNil' := ⟨gNil, pgs_nil, fun H0 F0 ts env F σ H ds vs env' Q R hd e q => by
  cases ds with
  | nil => cases hd; cases e; exact ⟨rfl, q _ R (.refl _)⟩
  | cons _ _ => cases e⟩
theorem dgs_cons {e : Expr} {es : List Expr} {sl sl' : List Nat} {t : D → Cs → Option Cs} {u : List D → Cs → Option Cs} (h1 : DG X e sl t) (h2 : DGs X es sl' u) (hs : (assignEach (e :: es) X.env).map (·.2) = assign e X.env :: (assignEach es X.env).map (·.2) := by rfl) : DGs X (e :: es) (sl ++ sl') (tCons' t u) := by
  obtain ⟨tt, p2, h2⟩ := h2
  refine ⟨_, pgs_cons pg_sem p2 hs, fun H0 F0 ts env F σ H ds vs env' Q R hd e q => ?_⟩
  cases ds with
  | nil => cases e
  | cons d ds =>
    obtain ⟨v, r, rfl, hv, hr⟩ := hd
    have e : (t d env).bind (fun env1 => u ds env1) = some env' := e
    cases q1 : t d env with
    | none => rw [q1] at e; cases e
    | some env1 =>
      rw [q1] at e
      exact ⟨v, r, rfl, h1 H0 F0 ts env F σ H d v env1 _ R hv q1 fun σ' R' o' => h2 H0 F0 ts env1 F σ' H ds r env' Q R' hr e fun σ2 R2 o2 => q σ2 R2 (o'.trans o2)⟩
def tTp (u : List D → Cs → Option Cs) : D → Cs → Option Cs
  | .tup ds, env => u ds env
  | _, _ => none
theorem tCons'_len {n : Nat} {u : List D → Cs → Option Cs} (h : ∀ ds env env', u ds env = some env' → ds.length = n) {t : D → Cs → Option Cs} : ∀ ds env env', tCons' t u ds env = some env' → ds.length = n + 1 := by
  intro ds env env' e
  cases ds with
  | nil => cases e
  | cons d ds =>
    have e : (t d env).bind (fun env1 => u ds env1) = some env' := e
    cases q1 : t d env with
    | none => rw [q1] at e; cases e
    | some env1 => rw [q1] at e; simp [h ds env1 env' e]
theorem tNil'_len : ∀ ds env env', tNil' ds env = some env' → ds.length = 0 := by
  intro ds env env' e
  cases ds with
  | nil => rfl
  | cons _ _ => cases e
theorem dg_tup {es : List Expr} {k : Nat} {sl : List Nat} {u : List D → Cs → Option Cs} {n : Nat} {pos : Pos} (hc : X.calm = true) (h : DGs X es sl u) (hl : ∀ ds env env', u ds env = some env' → ds.length = n)
    (hn : (assignEach es X.env).length = n := by rfl) (hst : (assignEach es X.env).findIdx? (·.1) = none := by rfl) : DG X (.Tuple es k pos) sl (tTp u) := by
  obtain ⟨t, p, h⟩ := h
  intro H0 F0 ts env F σ H d v env' Q R hd e q
  cases d with
  | tup ds =>
    obtain ⟨a, vs, rfl, hx, hr⟩ := hd
    have e : u ds env = some env' := e
    exact PG.sem (pg_tup hc p hn hst) ⟨a, vs, rfl, SqT.of (R.fh _ _ hx), by rw [hr.length, hl _ _ _ e], h H0 F0 ts env F σ H ds vs env' Q R hr e q⟩
  | _ => cases e
def sAsg (t : D → Cs → Option Cs) (g : Cs → Out D) : Cs → OS := fun env => (g env).bs fun d env1 => match t d env1 with
  | some env2 => .nx env2
  | none => .stuck
/-- target = value, the value given to the fixed part -/
theorem ds_asg {tg e : Expr} {sl : List Nat} {t : D → Cs → Option Cs} {g : Cs → Out D} {pos : Pos} (he : DF X W e g) (hg : DG X tg sl t) (hs : swapsWithSole [tg] e pos.line X.env = pure false := by rfl) (hw : swappedStores [tg] e X.env = pure none := by rfl)
    (h1 : (assignEach [tg] X.env).map (·.2) = [assign tg X.env] := by rfl) : DS X W (.Assign [tg] e pos) (sAsg t g) := by
  intro H0 F0 env F σ H D R p
  refine PS.sem (ps_asg pe_sem pg_sem hs hw h1) (he H0 F0 [] env F σ H _ R ?_)
  unfold sAsg at p
  cases q : g env with
  | stuck => rw [q] at p; exact p.elim
  | exc c => rw [q] at p; exact p
  | ok d env1 =>
    rw [q] at p
    dsimp only [Out.bs] at p
    intro v F' H' R' hd _
    cases z : t d env1 with
    | none => rw [z] at p; exact p.elim
    | some env2 => rw [z] at p; exact hg H0 F0 [] env1 F' σ H' d v env2 _ R' hd z fun σ' R2 _ => p F' σ' H' R2
end DL

namespace DL
open PySem PySem.Spec PyProof.Rows L2
variable [TabCtx] {K : PySem.W.Frag} {X : Cx} {W : WN}

/-! ### a, b = x, y -/
def noLoc : RV → Prop
  | .loc _ => False
  | _ => True
theorem Held.slots {ts : List (Addr × D)} {F : Hp} {σ σ' : L2.St} {r : RV} {v : V} (h : Held K ts F σ r v) (n : noLoc r) : Held K ts F σ' r v := by
  cases r with
  | loc i => exact n.elim
  | _ => exact h
theorem gNl_no {g : Cs → Out RV} {env env1 : Cs} {r : RV} (h : gNl g env = .ok r env1) : noLoc r := by
  unfold gNl at h
  cases q : g env with
  | stuck => rw [q] at h; cases h
  | exc c => rw [q] at h; cases h
  | ok r' env' =>
    rw [q] at h
    dsimp only [Out.bind] at h
    cases r' with
    | frz d => cases h; trivial
    | tmp d => cases h; trivial
    | loc i =>
      dsimp only at h
      cases z : settle env' (.loc i) with
      | stuck => rw [z] at h; cases h
      | exc c => rw [z] at h; cases h
      | ok d e => rw [z] at h; cases h; trivial
def sPar2 (i j : Nat) (ga gb : Cs → Out RV) : Cs → OS := fun env => (gNl ga env).bs fun r1 env1 => (gNl gb env1).bs fun r2 env2 => .nx ((env2.set i (cellOf r1)).set j (cellOf r2))
theorem par2_ok {a b : Expr} {ga gb : Cs → Out RV} {i j : Nat} (hij : i ≠ j) (ha : DE X W a ga) (hb : DE X W b gb) {H0 F0 : Hp} {env : Cs} {F : Hp} {σ : L2.St} {H : Hp} {D : Ends} {Q : List V → Hp → Prop} (R : Rs X.K H0 F0 [] env F σ H) (p : PoS X.K W H0 F0 D (sPar2 i j ga gb env))
    (hQ : ∀ v w H1, (∃ ts env' F', Rs X.K H0 F0 ts env' F' σ H1 ∧ ∀ H2, Ext F' H1 F' H2 → D.nx ((σ.set i (some v)).set j (some w)) H2) → Q [v, w] H1) : tCons (eS X a) (tCons (eS X b) tNil) σ H Q := by
  refine ha.nl H0 F0 [] env F σ H _ R ?_
  unfold sPar2 at p
  cases q : gNl ga env with
  | stuck => rw [q] at p; exact p.elim
  | exc c => rw [q] at p; exact p
  | ok r1 env1 =>
    rw [q] at p
    dsimp only [Out.bs] at p
    intro v F1 H1 R1 h1 s1
    refine hb.nl H0 F0 _ env1 F1 σ H1 _ R1 ?_
    cases q2 : gNl gb env1 with
    | stuck => rw [q2] at p; exact p.elim
    | exc c => rw [q2] at p; exact p
    | ok r2 env2 =>
      rw [q2] at p
      intro w F2 H2 R2 h2 s2
      refine hQ v w H2 ⟨_, env2, F2, R2, fun H3 x => ?_⟩
      have R3 := (R2.ext x).cell h2 j
      have h1' : Held X.K (tsOf [] r1 v) F2 (σ.set j (some w)) r1 v := (h1.mono s2 fun _ m => m).slots (gNl_no q)
      have R4 := R3.cell h1' i
      rw [List.set_comm _ _ hij.symm, List.set_comm _ _ hij.symm] at R4
      exact p F2 _ H3 R4
theorem ds_par2 (i j : Nat) {x y : Str} {a b : Expr} {ga gb : Cs → Out RV} {px py pt pos : Pos} {kt k2 : Nat} {pt2 : Pos} (hc : X.calm = true) (hN : X.N.Nodup) (hi : X.N[i]? = some x) (hj : X.N[j]? = some y) (hij : i ≠ j)
    (hx : X.env.scope.names.lookup x = some .local) (hy : X.env.scope.names.lookup y = some .local) (ha : DE X W a ga) (hb : DE X W b gb)
    (hw : swappedStores [.Tuple [.Name x px, .Name y py] kt pt] (.Tuple [a, b] k2 pt2) X.env = pure (some [x, y])) (hs : swapsWithSole [.Tuple [.Name x px, .Name y py] kt pt] (.Tuple [a, b] k2 pt2) pos.line X.env = pure false := by rfl)
    (he : starEach [a, b] X.env = (false, eval a X.env) :: starEach [b] X.env := by rfl) (he2 : starEach [b] X.env = (false, eval b X.env) :: starEach [] X.env := by rfl) :
    DS X W (.Assign [.Tuple [.Name x px, .Name y py] kt pt] (.Tuple [a, b] k2 pt2) pos) (sPar2 i j ga gb) := by
  intro H0 F0 env F σ H D R p
  refine PS.sem (ps_par hc hN hi hj hij hx hy (pa_cons pe_sem (pa_cons pe_sem pa_nil he2) he) hw hs) (par2_ok hij ha hb R p fun v w H1 ⟨ts, env', F', R', h⟩ => ?_)
  exact ⟨v, w, rfl, h H1 (.refl R'.fh)⟩
/-- .. by way of the tuple itself (a target is a cell, or no plain name) -/
theorem ds_par2T (i j : Nat) {x y : Str} {a b : Expr} {ga gb : Cs → Out RV} {px py pt pos : Pos} {kt k2 : Nat} {pt2 : Pos} (hc : X.calm = true) (hN : X.N.Nodup) (hi : X.N[i]? = some x) (hj : X.N[j]? = some y) (hij : i ≠ j)
    (hx : Loc X.env.scope x) (hy : Loc X.env.scope y) (ha : DE X W a ga) (hb : DE X W b gb) (fx : X.fn x = true ∨ X.env.scope.names.lookup x = some .local) (fy : X.fn y = true ∨ X.env.scope.names.lookup y = some .local)
    (hw : swappedStores [.Tuple [.Name x px, .Name y py] kt pt] (.Tuple [a, b] k2 pt2) X.env = pure none) (hs : swapsWithSole [.Tuple [.Name x px, .Name y py] kt pt] (.Tuple [a, b] k2 pt2) pos.line X.env = pure false := by rfl)
    (h1 : (assignEach [.Tuple [.Name x px, .Name y py] kt pt] X.env).map (·.2) = [assign (.Tuple [.Name x px, .Name y py] kt pt) X.env] := by rfl)
    (he : starEach [a, b] X.env = (false, eval a X.env) :: starEach [b] X.env := by rfl) (he2 : starEach [b] X.env = (false, eval b X.env) :: starEach [] X.env := by rfl) :
    DS X W (.Assign [.Tuple [.Name x px, .Name y py] kt pt] (.Tuple [a, b] k2 pt2) pos) (sPar2 i j ga gb) := by
  intro H0 F0 env F σ H D R p
  have pg : PG X (.Tuple [.Name x px, .Name y py] kt pt) (gTup X.K 2 (gCons (gName i) (gCons (gName j) gNil))) := pg_tup hc (pgs_cons (pg_name hN hi hx fx) (pgs_cons (pg_name hN hj hy fy) pgs_nil))
  refine PS.sem (ps_asg (pe_tup (pa_cons pe_sem (pa_cons pe_sem pa_nil he2) he)) pg hs hw h1) ?_
  show tCons (eS X a) (tCons (eS X b) tNil) σ H (fun xs H1 => xs.length ≤ sizeLine ∧ ∀ q, H1 q = none → gTup X.K 2 (gCons (gName i) (gCons (gName j) gNil)) (.ref q) σ (upd H1 q (.tup xs)) D.nx)
  refine par2_ok hij ha hb R p fun v w H1 ⟨ts, env', F', R', h⟩ => ?_
  refine ⟨by show 2 ≤ sizeLine; decide, fun t ht => ⟨t, [v, w], rfl, SqT.of upd_same, rfl, v, [w], rfl, w, [], rfl, rfl, ?_⟩⟩
  exact h _ (Ext.tmp R'.fh ht)
def sPar3 (i j l : Nat) (ga gb gc : Cs → Out RV) : Cs → OS := fun env => (gNl ga env).bs fun r1 env1 => (gNl gb env1).bs fun r2 env2 => (gNl gc env2).bs fun r3 env3 => .nx (((env3.set i (cellOf r1)).set j (cellOf r2)).set l (cellOf r3))
theorem par3_ok {a b c : Expr} {ga gb gc : Cs → Out RV} {i j l : Nat} (hij : i ≠ j) (hil : i ≠ l) (hjl : j ≠ l) (ha : DE X W a ga) (hb : DE X W b gb) (hc : DE X W c gc) {H0 F0 : Hp} {env : Cs} {F : Hp} {σ : L2.St} {H : Hp} {D : Ends} {Q : List V → Hp → Prop} (R : Rs X.K H0 F0 [] env F σ H) (p : PoS X.K W H0 F0 D (sPar3 i j l ga gb gc env))
    (hQ : ∀ v w u H1, (∃ ts env' F', Rs X.K H0 F0 ts env' F' σ H1 ∧ ∀ H2, Ext F' H1 F' H2 → D.nx (((σ.set i (some v)).set j (some w)).set l (some u)) H2) → Q [v, w, u] H1) : tCons (eS X a) (tCons (eS X b) (tCons (eS X c) tNil)) σ H Q := by
  refine ha.nl H0 F0 [] env F σ H _ R ?_
  unfold sPar3 at p
  cases q : gNl ga env with
  | stuck => rw [q] at p; exact p.elim
  | exc c => rw [q] at p; exact p
  | ok r1 env1 =>
    rw [q] at p
    dsimp only [Out.bs] at p
    intro v F1 H1 R1 h1 s1
    refine hb.nl H0 F0 _ env1 F1 σ H1 _ R1 ?_
    cases q2 : gNl gb env1 with
    | stuck => rw [q2] at p; exact p.elim
    | exc c => rw [q2] at p; exact p
    | ok r2 env2 =>
      rw [q2] at p
      dsimp only [Out.bs] at p
      intro w F2 H2 R2 h2 s2
      refine hc.nl H0 F0 _ env2 F2 σ H2 _ R2 ?_
      cases q3 : gNl gc env2 with
      | stuck => rw [q3] at p; exact p.elim
      | exc c => rw [q3] at p; exact p
      | ok r3 env3 =>
        rw [q3] at p
        intro u F3 H3 R3 h3 s3
        refine hQ v w u H3 ⟨_, env3, F3, R3, fun H4 x => ?_⟩
        have R4 := (R3.ext x).cell h3 l
        have h2' : Held X.K (tsOf (tsOf [] r1 v) r2 w) F3 (σ.set l (some u)) r2 w := (h2.mono s3 fun _ m => m).slots (gNl_no q2)
        have R5 := R4.cell h2' j
        have h1' : Held X.K (tsOf [] r1 v) F3 ((σ.set l (some u)).set j (some w)) r1 v := (h1.mono (s2.trans s3) fun _ m => m).slots (gNl_no q)
        have R6 := R5.cell h1' i
        rw [List.set_comm (l := env3) _ _ hjl.symm, List.set_comm (l := σ) _ _ hjl.symm, List.set_comm (l := env3.set j _) _ _ hil.symm, List.set_comm (l := σ.set j _) _ _ hil.symm, List.set_comm (l := env3) _ _ hij.symm, List.set_comm (l := σ) _ _ hij.symm] at R6
        exact p F3 _ H4 R6
theorem ds_par3 (i j l : Nat) {x y z : Str} {a b c : Expr} {ga gb gc : Cs → Out RV} {px py pz pt pos : Pos} {kt k2 : Nat} {pt2 : Pos} (hcm : X.calm = true) (hN : X.N.Nodup) (hi : X.N[i]? = some x) (hj : X.N[j]? = some y) (hl : X.N[l]? = some z) (hij : i ≠ j) (hil : i ≠ l) (hjl : j ≠ l)
    (hx : X.env.scope.names.lookup x = some .local) (hy : X.env.scope.names.lookup y = some .local) (hz : X.env.scope.names.lookup z = some .local) (ha : DE X W a ga) (hb : DE X W b gb) (hc : DE X W c gc)
    (hw : swappedStores [.Tuple [.Name x px, .Name y py, .Name z pz] kt pt] (.Tuple [a, b, c] k2 pt2) X.env = pure (some [x, y, z])) (hs : swapsWithSole [.Tuple [.Name x px, .Name y py, .Name z pz] kt pt] (.Tuple [a, b, c] k2 pt2) pos.line X.env = pure false := by rfl)
    (he : starEach [a, b, c] X.env = (false, eval a X.env) :: starEach [b, c] X.env := by rfl) (he2 : starEach [b, c] X.env = (false, eval b X.env) :: starEach [c] X.env := by rfl) (he3 : starEach [c] X.env = (false, eval c X.env) :: starEach [] X.env := by rfl) :
    DS X W (.Assign [.Tuple [.Name x px, .Name y py, .Name z pz] kt pt] (.Tuple [a, b, c] k2 pt2) pos) (sPar3 i j l ga gb gc) := by
  intro H0 F0 env F σ H D R p
  refine PS.sem (ps_par3 hcm hN hi hj hl hij hil hjl hx hy hz (pa_cons pe_sem (pa_cons pe_sem (pa_cons pe_sem pa_nil he3) he2) he) hw hs) (par3_ok hij hil hjl ha hb hc R p fun v w u H1 ⟨ts, env', F', R', h⟩ => ?_)
  exact ⟨v, w, u, rfl, h H1 (.refl R'.fh)⟩
theorem ds_par3T (i j l : Nat) {x y z : Str} {a b c : Expr} {ga gb gc : Cs → Out RV} {px py pz pt pos : Pos} {kt k2 : Nat} {pt2 : Pos} (hcm : X.calm = true) (hN : X.N.Nodup) (hi : X.N[i]? = some x) (hj : X.N[j]? = some y) (hl : X.N[l]? = some z) (hij : i ≠ j) (hil : i ≠ l) (hjl : j ≠ l)
    (hx : Loc X.env.scope x) (hy : Loc X.env.scope y) (hz : Loc X.env.scope z) (fx : X.fn x = true ∨ X.env.scope.names.lookup x = some .local) (fy : X.fn y = true ∨ X.env.scope.names.lookup y = some .local) (fz : X.fn z = true ∨ X.env.scope.names.lookup z = some .local)
    (ha : DE X W a ga) (hb : DE X W b gb) (hc : DE X W c gc)
    (hw : swappedStores [.Tuple [.Name x px, .Name y py, .Name z pz] kt pt] (.Tuple [a, b, c] k2 pt2) X.env = pure none) (hs : swapsWithSole [.Tuple [.Name x px, .Name y py, .Name z pz] kt pt] (.Tuple [a, b, c] k2 pt2) pos.line X.env = pure false := by rfl)
    (h1 : (assignEach [.Tuple [.Name x px, .Name y py, .Name z pz] kt pt] X.env).map (·.2) = [assign (.Tuple [.Name x px, .Name y py, .Name z pz] kt pt) X.env] := by rfl)
    (he : starEach [a, b, c] X.env = (false, eval a X.env) :: starEach [b, c] X.env := by rfl) (he2 : starEach [b, c] X.env = (false, eval b X.env) :: starEach [c] X.env := by rfl) (he3 : starEach [c] X.env = (false, eval c X.env) :: starEach [] X.env := by rfl) :
    DS X W (.Assign [.Tuple [.Name x px, .Name y py, .Name z pz] kt pt] (.Tuple [a, b, c] k2 pt2) pos) (sPar3 i j l ga gb gc) := by
  intro H0 F0 env F σ H D R p
  have pg : PG X (.Tuple [.Name x px, .Name y py, .Name z pz] kt pt) (gTup X.K 3 (gCons (gName i) (gCons (gName j) (gCons (gName l) gNil)))) := pg_tup hcm (pgs_cons (pg_name hN hi hx fx) (pgs_cons (pg_name hN hj hy fy) (pgs_cons (pg_name hN hl hz fz) pgs_nil)))
  refine PS.sem (ps_asg (pe_tup (pa_cons pe_sem (pa_cons pe_sem (pa_cons pe_sem pa_nil he3) he2) he)) pg hs hw h1) ?_
  show tCons (eS X a) (tCons (eS X b) (tCons (eS X c) tNil)) σ H (fun xs H1 => xs.length ≤ sizeLine ∧ ∀ q, H1 q = none → gTup X.K 3 (gCons (gName i) (gCons (gName j) (gCons (gName l) gNil))) (.ref q) σ (upd H1 q (.tup xs)) D.nx)
  refine par3_ok hij hil hjl ha hb hc R p fun v w u H1 ⟨ts, env', F', R', h⟩ => ?_
  refine ⟨by show 3 ≤ sizeLine; decide, fun t ht => ⟨t, [v, w, u], rfl, SqT.of upd_same, rfl, v, [w, u], rfl, w, [u], rfl, u, [], rfl, rfl, ?_⟩⟩
  exact h _ (Ext.tmp R'.fh ht)

/-! ### x[k] = v -/
theorem DvK.mapPut {F : Hp} {k : Key} {d : D} {v : V} (hd : Dv K F d v) : ∀ {es : List (Key × D)} {kvs : List (Key × V)}, DvK K F es kvs → DvK K F (es.map fun e => if e.1 = k then (e.1, d) else e) (kvs.map fun e => if e.1 = k then (e.1, v) else e)
  | [], _, h => by cases h; rfl
  | (k', d') :: es, _, ⟨w, r, e, h, t⟩ => by
    subst e
    by_cases q : k' = k
    · simp only [List.map_cons, q, ↓reduceIte]
      exact ⟨v, _, rfl, hd, DvK.mapPut hd t⟩
    · simp only [List.map_cons, q, ↓reduceIte]
      exact ⟨w, _, rfl, h, DvK.mapPut hd t⟩
theorem DvT.mapPut {F : Hp} {k : List Key} {d : D} {v : V} (hd : Dv K F d v) : ∀ {es : List (List Key × D)} {kvs : List (List Key × V)}, DvT K F es kvs → DvT K F (es.map fun e => if e.1 = k then (e.1, d) else e) (kvs.map fun e => if e.1 = k then (e.1, v) else e)
  | [], _, h => by cases h; rfl
  | (k', d') :: es, _, ⟨w, r, e, h, t⟩ => by
    subst e
    by_cases q : k' = k
    · simp only [List.map_cons, q, ↓reduceIte]
      exact ⟨v, _, rfl, hd, DvT.mapPut hd t⟩
    · simp only [List.map_cons, q, ↓reduceIte]
      exact ⟨w, _, rfl, h, DvT.mapPut hd t⟩
theorem DvK.app {F : Hp} {k : Key} {d : D} {v : V} (hd : Dv K F d v) : ∀ {es : List (Key × D)} {kvs : List (Key × V)}, DvK K F es kvs → DvK K F (es ++ [(k, d)]) (kvs ++ [(k, v)])
  | [], _, h => by cases h; exact ⟨v, [], rfl, hd, rfl⟩
  | (k', d') :: es, _, ⟨w, r, e, h, t⟩ => by subst e; exact ⟨w, _, rfl, h, DvK.app hd t⟩
theorem DvT.app {F : Hp} {k : List Key} {d : D} {v : V} (hd : Dv K F d v) : ∀ {es : List (List Key × D)} {kvs : List (List Key × V)}, DvT K F es kvs → DvT K F (es ++ [(k, d)]) (kvs ++ [(k, v)])
  | [], _, h => by cases h; exact ⟨v, [], rfl, hd, rfl⟩
  | (k', d') :: es, _, ⟨w, r, e, h, t⟩ => by subst e; exact ⟨w, _, rfl, h, DvT.app hd t⟩
theorem DvK.any {F : Hp} {k : Key} : ∀ {es : List (Key × D)} {kvs : List (Key × V)}, DvK K F es kvs → (es.any fun e => decide (e.1 = k)) = kvs.any fun e => decide (e.1 = k)
  | [], _, h => by cases h; rfl
  | (k', d') :: es, _, ⟨w, r, e, h, t⟩ => by subst e; rw [List.any_cons, List.any_cons, DvK.any t]
theorem DvT.any {F : Hp} {k : List Key} : ∀ {es : List (List Key × D)} {kvs : List (List Key × V)}, DvT K F es kvs → (es.any fun e => decide (e.1 = k)) = kvs.any fun e => decide (e.1 = k)
  | [], _, h => by cases h; rfl
  | (k', d') :: es, _, ⟨w, r, e, h, t⟩ => by subst e; rw [List.any_cons, List.any_cons, DvT.any t]
theorem DvK.put {F : Hp} {k : Key} {d : D} {v : V} {es : List (Key × D)} {kvs : List (Key × V)} (h : DvK K F es kvs) (hd : Dv K F d v) : DvK K F (put es k d) (putK kvs k v) := by
  unfold DL.put putK
  rw [h.any]
  split
  · exact h.mapPut hd
  · exact h.app hd
theorem DvT.put {F : Hp} {k : List Key} {d : D} {v : V} {es : List (List Key × D)} {kvs : List (List Key × V)} (h : DvT K F es kvs) (hd : Dv K F d v) : DvT K F (put es k d) (putK kvs k v) := by
  unfold DL.put putK
  rw [h.any]
  split
  · exact h.mapPut hd
  · exact h.app hd
theorem DvT.length {F : Hp} : ∀ {es : List (List Key × D)} {kvs : List (List Key × V)}, DvT K F es kvs → kvs.length = es.length
  | [], _, h => by cases h; rfl
  | (_, _) :: _, _, ⟨_, _, e, _, t⟩ => by subst e; simp [DvT.length t]
theorem DvL.set {F : Hp} {d : D} {v : V} (hd : Dv K F d v) : ∀ {xs : List D} {vs : List V} (i : Nat), DvL K F xs vs → DvL K F (xs.set i d) (vs.set i v)
  | [], _, _, h => by cases h; rfl
  | _ :: _, _, 0, ⟨w, r, e, h, t⟩ => by subst e; exact ⟨v, r, rfl, hd, t⟩
  | _ :: _, _, i + 1, ⟨w, r, e, h, t⟩ => by subst e; exact ⟨w, r.set i v, rfl, h, DvL.set hd i t⟩
def putD (d k v : D) : Option D := match d with
  | .dK es => match asKey k with
    | some k => if sz (es.length + 1) = true then some (.dK (put es k v)) else none
    | none => none
  | .dT es => match k with
    | .tup xs => match asKeys xs with
      | some k => if sz (es.length + 1) = true then some (.dT (put es k v)) else none
      | none => none
    | _ => none
  | .lst xs => match k with
    | .int i => match ixN xs.length i with
      | some j => some (.lst (xs.set j v))
      | none => none
    | _ => none
  | _ => none
def sPut (i : Nat) (gk gv : Cs → Out D) : Cs → OS := fun env => (gv env).bs fun v env1 => match env1[i]? with
  | some (.own _) => (gk env1).bs fun k env2 => match env2[i]? with
    | some (.own d) => match putD d k v with
      | some d' => .nx (env2.set i (.own d'))
      | none => .stuck
    | _ => .stuck
  | _ => .stuck
theorem sz_lt {n : Nat} (h : sz (n + 1) = true) : n < sizeLine := by rw [sizeLine_eq]; have := of_decide_eq_true h; omega
/-- a statement that leaves all slots as they are -/
def PoS0 (K : PySem.W.Frag) (W : WN) (H0 F0 : Hp) (σ : L2.St) (D : Ends) : OS → Prop
  | .nx env => ∀ F' H', Rs K H0 F0 [] env F' σ H' → D.nx σ H'
  | .exc c => ∀ H', Kp H0 H' → W c H'
  | _ => False
def DS0 (X : Cx) (W : WN) (st : Stmt) (g : Cs → OS) : Prop := ∀ (H0 F0 : Hp) (env : Cs) (F : Hp) (σ : L2.St) (H : Hp) (D : Ends),
  Rs X.K H0 F0 [] env F σ H → PoS0 X.K W H0 F0 σ D (g env) → sS X st D σ H
theorem sPut_out {i : Nat} {gk gv : Cs → Out D} {K : PySem.W.Frag} {H0 F0 : Hp} {D : Ends} {env : Cs} {σ : L2.St} (p : PoS K W H0 F0 D (sPut i gk gv env)) : PoS0 K W H0 F0 σ D (sPut i gk gv env) := by
  unfold sPut at p ⊢
  cases q : gv env with
  | stuck => rw [q] at p; exact p
  | exc c => rw [q] at p; exact p
  | ok dv env1 =>
    rw [q] at p
    dsimp only [Out.bs] at p ⊢
    split at p
    · cases q2 : gk env1 with
      | stuck => rw [q2] at p; exact p
      | exc c => rw [q2] at p; exact p
      | ok dk env2 =>
        rw [q2] at p
        dsimp only [Out.bs] at p ⊢
        split at p
        · split at p
          · exact fun F' H' R => p F' σ H' R
          · exact p
        · exact p
    · exact p
theorem ds_put0 (i : Nat) {x : Str} {k v : Expr} {gk gv : Cs → Out D} {px ps pos : Pos} (hu : X.A.units + 1 < cLine) (hi : X.N[i]? = some x) (hx : Vis X.env.scope x) (hk : DF X W k gk) (hv : DF X W v gv)
    (hs : swapsWith v (some (.Subscript (.Name x px) k ps)) pos.line X.env = pure false) (hs2 : swapsWithSole [.Subscript (.Name x px) k ps] v pos.line X.env = pure false) (hw : swappedStores [.Subscript (.Name x px) k ps] v X.env = pure none)
    (h1 : (assignEach [.Subscript (.Name x px) k ps] X.env).map (·.2) = [assign (.Subscript (.Name x px) k ps) X.env])
    (ha : ∀ u, assign (.Subscript (.Name x px) k ps) X.env u = (do
      let ov ← holding [u] (eval (.Name x px) X.env)
      let iv ← holding [u, ov] (eval k X.env)
      standAt ps
      holding [u, ov, iv] (setItem ov iv u)
      release [u, ov, iv] []))
    (hd : (x == ("__debug__" : Str)) = false := by decide) (hcd : (x == ("__classdict__" : Str)) = false := by decide) : DS0 X W (.Assign [.Subscript (.Name x px) k ps] v pos) (sPut i gk gv) := by
  intro H0 F0 env F σ H D R p
  unfold sPut at p
  have two : eS X v σ H fun v' H1 => ∃ a, σ[i]? = some (some (.ref a)) ∧ eS X k σ H1 fun y H2 => (∃ H3, DPut H2 a y v' H3 ∧ D.nx σ H3) ∨ rSetL (.ref a) y v' H2 (fun H3 => D.nx σ H3) := by
    refine hv H0 F0 [] env F σ H _ R ?_
    cases q : gv env with
    | stuck => rw [q] at p; exact p.elim
    | exc c => rw [q] at p; exact p
    | ok dv env1 =>
      rw [q] at p
      dsimp only [Out.bs] at p
      intro v' F1 H1 R1 h1 s1
      split at p
      · rename_i d0 e0
        obtain ⟨a, ea, _⟩ := R1.cells i _ e0
        refine ⟨a, ea, hk H0 F0 [] env1 F1 σ H1 _ R1 ?_⟩
        cases q2 : gk env1 with
        | stuck => rw [q2] at p; exact p.elim
        | exc c => rw [q2] at p; exact p
        | ok dk env2 =>
          rw [q2] at p
          dsimp only [Out.bs] at p
          intro y F2 H2 R2 h2 s2
          split at p
          · rename_i d e2
            obtain ⟨a', ea', o, nf, n0⟩ := R2.cells i _ e2
            rw [ea] at ea'
            cases ea'
            have h1 : Dv X.K F2 dv v' := h1.mono s2
            cases d with
            | dK es =>
              obtain ⟨kvs, ek, tk⟩ := o
              dsimp only [putD] at p
              cases q3 : asKey dk with
              | none => rw [q3] at p; exact p.elim
              | some kk =>
                rw [q3] at p
                dsimp only at p
                by_cases hz : sz (es.length + 1) = true
                · rw [if_pos hz] at p
                  have e5 := h2.key q3
                  subst e5
                  refine .inl ⟨_, .inl ⟨kvs, kk, ek, rfl, by rw [tk.length]; exact sz_lt hz, rfl⟩, ?_⟩
                  exact p F2 _ (R2.write e2 ea ⟨_, upd_same, tk.put h1⟩)
                · rw [if_neg hz] at p; exact p.elim
            | dT es =>
              obtain ⟨kvs, ek, tk⟩ := o
              cases dk with
              | tup xs =>
                dsimp only [putD] at p
                cases q3 : asKeys xs with
                | none => rw [q3] at p; exact p.elim
                | some kk =>
                  rw [q3] at p
                  dsimp only at p
                  by_cases hz : sz (es.length + 1) = true
                  · rw [if_pos hz] at p
                    obtain ⟨b, vs, rfl, hb, tb⟩ := h2
                    refine .inl ⟨_, .inr ⟨kvs, kk, b, ek, rfl, by rw [R2.fh _ _ hb, tb.keys q3], by rw [tk.length]; exact sz_lt hz, rfl⟩, ?_⟩
                    exact p F2 _ (R2.write e2 ea ⟨_, upd_same, tk.put h1⟩)
                  · rw [if_neg hz] at p; exact p.elim
              | _ => exact p.elim
            | lst xs =>
              obtain ⟨vs, ek, tk⟩ := o
              cases dk with
              | int z =>
                dsimp only [putD] at p
                cases q3 : ixN xs.length z with
                | none => rw [q3] at p; exact p.elim
                | some j =>
                  rw [q3] at p
                  cases (show y = .int z from h2)
                  refine .inr ⟨a, vs, z, j, rfl, rfl, ek, by rw [tk.length]; exact q3, ?_⟩
                  exact p F2 _ (R2.write e2 ea ⟨_, upd_same, tk.set h1 j⟩)
              | _ => exact p.elim
            | _ => exact o.elim
          · exact p.elim
      · exact p.elim
  refine PS.sem (?_ : PS X _ (fun D σ H => eS X v σ H fun v' H1 => ∃ a, σ[i]? = some (some (.ref a)) ∧ eS X k σ H1 fun y H2 => (∃ H3, DPut H2 a y v' H3 ∧ D.nx σ H3) ∨ rSetL (.ref a) y v' H2 (fun H3 => D.nx σ H3))) two
  have hset : PSet X (fun o y v' H Q => (∃ a H3, o = .ref a ∧ DPut H a y v' H3 ∧ Q H3) ∨ rSetL o y v' H Q) := by
    intro pins s σ H o y v' ov iv u Q I ro ri rv h
    rcases h with ⟨a, H3, rfl, g, q⟩ | h
    · cases ro
      exact d_setItem hu I g ri rv fun s' I' => ⟨H3, I', q⟩
    · exact set_list pins s σ H o y v' ov iv u Q I ro ri rv h
  have base := ps_asg (X := X) (pe_sem (e := v)) (pg_sub (pe_var hi hx hd hcd) (pe_sem (e := k)) hset ha) hs2 hw h1 (pos := pos)
  refine ⟨fun pins s σ H D I h => base.run pins s σ H D I ?_⟩
  refine eS.imp h fun v' H1 ⟨a, ea, h⟩ => ⟨.ref a, ea, eS.imp h fun y H2 h => ?_⟩
  rcases h with ⟨H3, g, q⟩ | h
  · exact .inl ⟨a, H3, rfl, g, q⟩
  · exact .inr h
theorem ds_put (i : Nat) {x : Str} {k v : Expr} {gk gv : Cs → Out D} {px ps pos : Pos} (hu : X.A.units + 1 < cLine) (hi : X.N[i]? = some x) (hx : Vis X.env.scope x) (hk : DF X W k gk) (hv : DF X W v gv)
    (hs : swapsWith v (some (.Subscript (.Name x px) k ps)) pos.line X.env = pure false) (hs2 : swapsWithSole [.Subscript (.Name x px) k ps] v pos.line X.env = pure false) (hw : swappedStores [.Subscript (.Name x px) k ps] v X.env = pure none)
    (h1 : (assignEach [.Subscript (.Name x px) k ps] X.env).map (·.2) = [assign (.Subscript (.Name x px) k ps) X.env])
    (ha : ∀ u, assign (.Subscript (.Name x px) k ps) X.env u = (do
      let ov ← holding [u] (eval (.Name x px) X.env)
      let iv ← holding [u, ov] (eval k X.env)
      standAt ps
      holding [u, ov, iv] (setItem ov iv u)
      release [u, ov, iv] []))
    (hd : (x == ("__debug__" : Str)) = false := by decide) (hcd : (x == ("__classdict__" : Str)) = false := by decide) : DS X W (.Assign [.Subscript (.Name x px) k ps] v pos) (sPut i gk gv) :=
  fun H0 F0 env F σ H D R p => ds_put0 i hu hi hx hk hv hs hs2 hw h1 ha hd hcd H0 F0 env F σ H D R (sPut_out p)
end DL

namespace DL
open PySem PySem.Spec PyProof.Rows L2
variable [TabCtx] {K : PySem.W.Frag} {X : Cx} {W : WN}

/-! ### methods of a list that a name holds alone -/
def gApp (i : Nat) (g : Cs → Out D) : Cs → Out RV := fun env => match env[i]? with
  | some (.own (.lst _)) => (g env).bind fun d env1 => match env1[i]? with
    | some (.own (.lst xs)) => if sz (xs.length + 1) = true then .ok (.frz .non) (env1.set i (.own (.lst (xs ++ [d])))) else .stuck
    | _ => .stuck
  | _ => .stuck
theorem de_append (i : Nat) {x : Str} {e : Expr} {g : Cs → Out D} {px apos cpos : Pos} (hi : X.N[i]? = some x) (hx : Vis X.env.scope x) (he : DF X W e g)
    (hbase : attributeBase (.Name x px) "append" X.env (eval (.Name x px) X.env) = eval (.Name x px) X.env := by rfl)
    (hfew : ((backTo cpos (starEach [e] X.env)).all (fun x => !x.1) && (backToKw cpos (keywordEach [] X.env)).all (fun x => x.1.isSome) && decide (([e] : List Expr).length + ([] : List Keyword).length + (if ([] : List Keyword).isEmpty then 0 else 1) < 30)) = true := by rfl)
    (hline : (apos.endLine == cpos.line) = true := by rfl) (hs : starEach [e] X.env = (false, eval e X.env) :: starEach [] X.env := by rfl)
    (hd : (x == ("__debug__" : Str)) = false := by decide) (hcd : (x == ("__classdict__" : Str)) = false := by decide) :
    DE X W (.Call (.Attribute (.Name x px) "append" apos) [e] [] cpos) (gApp i g) := by
  intro H0 F0 ts env F σ H Q R p
  refine PE.sem (pe_bm (t := tCons (eS X e) tNil) PySem.F.plainAttrs_list PySem.F.slot_list_append PySem.F.type_list_append mt_append (pe_var hi hx hd hcd) (pa_cons pe_sem pa_nil hs) hbase hfew hline hs) ?_
  unfold gApp at p
  split at p
  · rename_i xs0 e0
    obtain ⟨a, ea, ⟨vs0, h0, _⟩, _⟩ := R.cells i _ e0
    refine ⟨.ref a, ea, .inl ⟨rfl, _, SqL.of h0⟩, he H0 F0 ts env F σ H _ R ?_⟩
    cases q : g env with
    | stuck => rw [q] at p; exact p.elim
    | exc c => rw [q] at p; exact p
    | ok d env1 =>
      rw [q] at p
      dsimp only [Out.bind] at p
      intro v F1 H1 R1 h1 s1
      split at p
      · rename_i xs e1
        obtain ⟨a', ea', ⟨vs, h2, t2⟩, nf, n0⟩ := R1.cells i _ e1
        rw [ea] at ea'
        cases ea'
        split at p
        · rename_i hz
          refine ⟨a, vs, v, rfl, rfl, h2, by rw [t2.length]; exact sz_lt hz, ?_⟩
          exact p .non F1 _ (R1.write e1 ea ⟨_, upd_same, t2.app ⟨v, [], rfl, h1, rfl⟩⟩) rfl s1
        · exact p.elim
      · exact p.elim
  · exact p.elim
theorem ext_tup (l : Addr) (items : Array Value) (n : Nat) (b : Addr) (o : Obj) (items2 : Array Value) (n2 : Nat) (oc : o.cls = .type "tuple") (od : o.data = .seq items2 n2) (hs0 : ¬(!items.isEmpty && Builtin.List.listTooLong (items.size + items2.size)) = true) (hs1 : items.size ≤ sizeLine) (hs2 : items.size + items2.size ≤ sizeLine + 1) :
    Meets (Builtin.«list.extend» ⟨[.ref l, .ref b], []⟩) (fun _ R s => s.heap.get? l = some { cls := .type "list", data := .seq items n } ∧ s.heap.get? b = some o ∧ R (.ok (.ret Value.none)) { s with heap := s.heap.update l (Obj.mapSeq fun x => x ++ items2), toks := s.toks }) := by
  obtain ⟨c, dc, da, sl⟩ := o
  cases oc
  cases od
  refine .of_wp fun prog w A R s h => ?_
  obtain ⟨hp, g, d, tk, os⟩ := s
  obtain ⟨hl, hb, h⟩ := h
  have f1 := AutoSeq1.idx_int
  have f2 := AutoSeq1.sub_tuple_tuple
  have f3 := AutoSeq1.sub_list_list
  have f4 := AutoSeq1.sub_tuple_list
  have f5 := AutoSeq1.sub_list_tuple
  have hz' : (items ++ items2).size ≤ sizeLine + 1 := by rw [Array.size_append]; exact hs2
  wp_walk using (wpAny_updateSeq hl rfl (hz := hs1) (_hz' := hz')), AutoSeq1.wpAny_loadPart' hl, AutoSeq1.wpAny_loadPart' hb
  exact ⟨_, rfl, h⟩
def rExtendT : V → List V → Hp → VK → Prop := fun x vs H Q => ∃ l b xs zs, x = .ref l ∧ vs = [.ref b] ∧ H l = some (.lst xs) ∧ H b = some (.tup zs) ∧ xs.length + zs.length ≤ sizeLine ∧ Q .non (upd H l (.lst (xs ++ zs)))
theorem mt_extendT : MtM X "list.extend" rExtendT := by
  intro pins s σ H x vs v us Q I rx rv h
  obtain ⟨l, b, xs, zs, rfl, rfl, hH, hB, room, q⟩ := h
  cases rx
  obtain ⟨u, rfl, ru⟩ := rv.one
  cases ru
  obtain ⟨_, its, n, r, hl, e⟩ := I.lstM hH
  obtain ⟨its2, r2, ⟨o, e2, oc, n2, od⟩, _⟩ := I.tuple (SqT.of (K := X.K) hB)
  have hl2 := r2.length
  have few : its.toArray.size + its2.toArray.size ≤ sizeLine := by rw [List.size_toArray, List.size_toArray]; omega
  have short : ¬ (!its.toArray.isEmpty && Builtin.List.listTooLong (its.toArray.size + its2.toArray.size)) = true := by
    rw [notLongL few, Bool.and_false]
    exact Bool.false_ne_true
  refine call_meets F.slot_list_extend ⟨_, e, rfl⟩ F.entry_list_extend (F.args_list_extend_2 _ _)
    (ext_tup l its.toArray n b o its2.toArray n2 oc od short (by rw [List.size_toArray]; omega) (by omega)) ⟨e, e2, ?_⟩
  refine ⟨.non, _, I.lset (its' := its ++ its2) hH e (by simp) (r.append r2) ?_, rfl, q⟩
  rw [List.length_append]
  omega
theorem mt_ext2 : MtM X "list.extend" (fun x vs H Q => rExtend x vs H Q ∨ rExtendT x vs H Q) := by
  intro pins s σ H x vs v us Q I rx rv h
  rcases h with h | h
  · exact mt_extend pins s σ H x vs v us Q I rx rv h
  · exact mt_extendT pins s σ H x vs v us Q I rx rv h
/-- .. by another list -/
def gExt (i : Nat) (g : Cs → Out D) : Cs → Out RV := fun env => match env[i]? with
  | some (.own (.lst _)) => (g env).bind fun d env1 => match env1[i]?, d with
    | some (.own (.lst xs)), .lst ys => if sz (xs.length + ys.length) = true then .ok (.frz .non) (env1.set i (.own (.lst (xs ++ ys)))) else .stuck
    | some (.own (.lst xs)), .tup ys => if sz (xs.length + ys.length) = true then .ok (.frz .non) (env1.set i (.own (.lst (xs ++ ys)))) else .stuck
    | _, _ => .stuck
  | _ => .stuck
theorem de_extend (i : Nat) {x : Str} {e : Expr} {g : Cs → Out D} {px apos cpos : Pos} (hi : X.N[i]? = some x) (hx : Vis X.env.scope x) (he : DP X W e g)
    (hbase : attributeBase (.Name x px) "extend" X.env (eval (.Name x px) X.env) = eval (.Name x px) X.env := by rfl)
    (hfew : ((backTo cpos (starEach [e] X.env)).all (fun x => !x.1) && (backToKw cpos (keywordEach [] X.env)).all (fun x => x.1.isSome) && decide (([e] : List Expr).length + ([] : List Keyword).length + (if ([] : List Keyword).isEmpty then 0 else 1) < 30)) = true := by rfl)
    (hline : (apos.endLine == cpos.line) = true := by rfl) (hs : starEach [e] X.env = (false, eval e X.env) :: starEach [] X.env := by rfl)
    (hd : (x == ("__debug__" : Str)) = false := by decide) (hcd : (x == ("__classdict__" : Str)) = false := by decide) :
    DE X W (.Call (.Attribute (.Name x px) "extend" apos) [e] [] cpos) (gExt i g) := by
  intro H0 F0 ts env F σ H Q R p
  refine PE.sem (pe_bm (t := tCons (eS X e) tNil) PySem.F.plainAttrs_list PySem.F.slot_list_extend PySem.F.type_list_extend (mt_ext2 (X := X)) (pe_var hi hx hd hcd) (pa_cons pe_sem pa_nil hs) hbase hfew hline hs) ?_
  unfold gExt at p
  split at p
  · rename_i xs0 e0
    obtain ⟨a, ea, ⟨vs0, h0, _⟩, _⟩ := R.cells i _ e0
    refine ⟨.ref a, ea, .inl ⟨rfl, _, SqL.of h0⟩, he H0 F0 ts env F σ H _ R ?_⟩
    cases q : g env with
    | stuck => rw [q] at p; exact p.elim
    | exc c => rw [q] at p; exact p
    | ok d env1 =>
      rw [q] at p
      dsimp only [Out.bind] at p
      intro v F1 H1 R1 h1 s1
      split at p
      · rename_i xs ys e1
        obtain ⟨a', ea', ⟨vs, h2, t2⟩, nf, n0⟩ := R1.cells i _ e1
        rw [ea] at ea'
        cases ea'
        obtain ⟨b, ws, rfl, h3, t3⟩ := h1.lst R1.fh
        split at p
        · rename_i hz
          refine .inl ⟨a, b, vs, ws, rfl, rfl, h2, h3, by rw [t2.length, t3.length]; exact sz_le hz, ?_⟩
          exact p .non F1 _ (R1.write e1 ea ⟨_, upd_same, t2.app t3⟩) rfl s1
        · exact p.elim
      · rename_i xs ys e1
        obtain ⟨a', ea', ⟨vs, h2, t2⟩, nf, n0⟩ := R1.cells i _ e1
        rw [ea] at ea'
        cases ea'
        obtain ⟨b, ws, rfl, h3, t3⟩ := h1.tup R1.fh
        split at p
        · rename_i hz
          refine .inr ⟨a, b, vs, ws, rfl, rfl, h2, h3, by rw [t2.length, t3.length]; exact sz_le hz, ?_⟩
          exact p .non F1 _ (R1.write e1 ea ⟨_, upd_same, t2.app t3⟩) rfl s1
        · exact p.elim
      · exact p.elim
  · exact p.elim
/-- x.pop() -/
def gPop (i : Nat) : Cs → Out RV := fun env => match env[i]? with
  | some (.own (.lst xs)) => match xs[xs.length - 1]? with
    | some d => .ok (.frz d) (env.set i (.own (.lst xs.dropLast)))
    | none => .stuck
  | _ => .stuck
theorem DvL.dropLast {F : Hp} {xs : List D} {vs : List V} (h : DvL K F xs vs) : DvL K F xs.dropLast vs.dropLast := by
  rw [List.dropLast_eq_take, List.dropLast_eq_take, h.length]
  exact h.take _
theorem de_pop (i : Nat) {x : Str} {px apos cpos : Pos} (hi : X.N[i]? = some x) (hx : Vis X.env.scope x)
    (hbase : attributeBase (.Name x px) "pop" X.env (eval (.Name x px) X.env) = eval (.Name x px) X.env := by rfl) (hline : (apos.endLine == cpos.line) = true := by rfl)
    (hd : (x == ("__debug__" : Str)) = false := by decide) (hcd : (x == ("__classdict__" : Str)) = false := by decide) : DE X W (.Call (.Attribute (.Name x px) "pop" apos) [] [] cpos) (gPop i) := by
  intro H0 F0 ts env F σ H Q R p
  refine PE.sem (pe_bm0 PySem.F.plainAttrs_list PySem.F.slot_list_pop PySem.F.type_list_pop mt_pop (pe_var hi hx hd hcd) hbase hline) ?_
  unfold gPop at p
  split at p
  · rename_i xs e0
    obtain ⟨a, ea, ⟨vs, h0, t0⟩, nf, n0⟩ := R.cells i _ e0
    split at p
    · rename_i d e1
      obtain ⟨w, ew, dw⟩ := t0.at_ e1
      refine ⟨.ref a, ea, .inl ⟨rfl, _, SqL.of h0⟩, a, vs, w, rfl, rfl, h0, by rw [t0.length]; exact ew, ?_⟩
      exact p w F _ (R.write e0 ea ⟨_, upd_same, t0.dropLast⟩) dw (.refl _)
    · exact p.elim
  · exact p.elim
/-- d.get(k, x) -/
def gGet (gd gk gx : Cs → Out RV) : Cs → Out RV := fun env => (gd env).bind fun r1 env1 => (gSet gk env1).bind fun k env2 => (gSet gx env2).bind fun x env3 => match valOf env3 r1 with
  | some d => match dget d k with
    | some (some y) => .ok (.frz y) env3
    | some none => .ok (.frz x) env3
    | none => .stuck
  | none => .stuck
theorem IsD.of_dget {F H : Hp} {d k : D} {v u : V} {o : Option D} (s : Same F H) (hd : Top K F H d v) (h : dget d k = some o) : ∃ a, v = .ref a ∧ IsD H a := by
  cases d with
  | dK es => obtain ⟨a, kvs, e1, h1, _⟩ := hd.dK s; exact ⟨a, e1, .inl ⟨kvs, h1⟩⟩
  | dT es => obtain ⟨a, kvs, e1, h1, _⟩ := hd.dT s; exact ⟨a, e1, .inr ⟨kvs, h1⟩⟩
  | _ => cases h
def isDict : D → Bool
  | .dK _ => true
  | .dT _ => true
  | _ => false
def gGet' (gd gk gx : Cs → Out RV) : Cs → Out RV := fun env => (gd env).bind fun r1 env1 => match valOf env1 r1 with
  | some d0 => if isDict d0 = true then (gSet gk env1).bind fun k env2 => (gSet gx env2).bind fun x env3 => match valOf env3 r1 with
    | some d => match dget d k with
      | some (some y) => .ok (.frz y) env3
      | some none => .ok (.frz x) env3
      | none => .stuck
    | none => .stuck
    else .stuck
  | none => .stuck
theorem de_get {o k x : Expr} {gd gk gx : Cs → Out RV} {apos cpos : Pos} (hu : X.A.units + 1 < cLine) (hd : DE X W o gd) (hk : DE X W k gk) (hx : DE X W x gx) (m : M2 X o "get" apos k x cpos) :
    DE X W (.Call (.Attribute o "get" apos) [k, x] [] cpos) (gGet' gd gk gx) := by
  intro H0 F0 ts env F σ H Q R p
  refine PE.sem (pe_dget2 hu pe_sem pe_sem pe_sem m) (hd H0 F0 ts env F σ H _ R ?_)
  unfold gGet' at p
  cases q : gd env with
  | stuck => rw [q] at p; exact p.elim
  | exc c => rw [q] at p; exact p
  | ok r1 env1 =>
    rw [q] at p
    dsimp only [Out.bind] at p
    intro v F1 H1 R1 h1 s1
    cases z0 : valOf env1 r1 with
    | none => rw [z0] at p; exact p.elim
    | some d0 =>
      rw [z0] at p
      dsimp only at p
      split at p
      · rename_i hz0
        have top0 := h1.top R1 z0
        obtain ⟨a, rfl, hisd⟩ : ∃ a, v = .ref a ∧ IsD H1 a := by
          cases d0 with
          | dK es => obtain ⟨a, kvs, e1, h1, _⟩ := top0.dK R1.fh; exact ⟨a, e1, .inl ⟨kvs, h1⟩⟩
          | dT es => obtain ⟨a, kvs, e1, h1, _⟩ := top0.dT R1.fh; exact ⟨a, e1, .inr ⟨kvs, h1⟩⟩
          | _ => cases hz0
        refine ⟨a, rfl, hisd, hk.df H0 F0 _ env1 F1 σ H1 _ R1 ?_⟩
        cases q2 : gSet gk env1 with
        | stuck => rw [q2] at p; exact p.elim
        | exc c => rw [q2] at p; exact p
        | ok dk env2 =>
          rw [q2] at p
          dsimp only [Out.bind] at p
          intro y F2 H2 R2 h2 s2
          refine hx.df H0 F0 _ env2 F2 σ H2 _ R2 ?_
          cases q3 : gSet gx env2 with
          | stuck => rw [q3] at p; exact p.elim
          | exc c => rw [q3] at p; exact p
          | ok dx env3 =>
            rw [q3] at p
            dsimp only at p
            intro w F3 H3 R3 h3 s3
            cases z : valOf env3 r1 with
            | none => rw [z] at p; exact p.elim
            | some d =>
              rw [z] at p
              dsimp only at p
              have top := (h1.mono (s2.trans s3) fun _ m => m).top R3 z
              cases z2 : dget d dk with
              | none => rw [z2] at p; exact p.elim
              | some o' =>
                rw [z2] at p
                obtain ⟨a', r, e1, _, g, hh⟩ := dget_ok R3.fh top (.inl (h2.mono s3)) z2
                cases e1
                refine ⟨r, g, ?_⟩
                rcases hh with ⟨rfl, rfl⟩ | ⟨d', w', rfl, rfl, dv⟩
                · exact p w F3 H3 R3.untmp h3 (s1.trans (s2.trans s3))
                · exact p w' F3 H3 R3.untmp dv (s1.trans (s2.trans s3))
      · exact p.elim

/-! ### what is walked -/
def iS (X : Cx) (tg iter : Expr) : TI := fun σ H R => Bx (∀ (pins : List (Addr × Obj)) (s : Shared), Inv X pins σ H s → wpAny (model X.prog X.w) X.A (eval iter X.env) (fun v s1 => wpAny (model X.prog X.w) X.A (pyIter v) (PIE X pins σ tg R) X.xe s1) X.xe s)
theorem pi_sem {tg iter : Expr} : PI X tg iter (iS X tg iter) := ⟨fun pins s _ _ _ I h => h.out pins s I⟩
theorem PI.sem {tg iter : Expr} {wi : TI} (h : PI X tg iter wi) {σ : L2.St} {H : Hp} {R : It → Hp → Prop} (q : wi σ H R) : iS X tg iter σ H R := .mk fun pins s I => h.run pins s σ H R I q
/-- an iterator over data -/
def ItOk (K : PySem.W.Frag) (J : It) (F : Hp) (ds : List D) : Prop := ∀ F' H', Same F F' → Same F' H' →
  (∀ i d, ds[i]? = some d → J.go i H' ∧ ∀ x H'', J.yld i H' x H'' → ∃ F'', Ext F' H' F'' H'' ∧ Dv K F'' d x) ∧ J.stop ds.length H'
def PoI (K : PySem.W.Frag) (W : WN) (H0 F0 : Hp) (ts : List (Addr × D)) (F : Hp) (σ : L2.St) (Q : It → Hp → Prop) : Out (List D) → Prop
  | .stuck => False
  | .exc c => ∀ H', Kp H0 H' → W c H'
  | .ok ds env => ∀ J F' H', Rs K H0 F0 ts env F' σ H' → Same F F' → ItOk K J F' ds → Q J H'
def DI (X : Cx) (W : WN) (tg iter : Expr) (g : Cs → Out (List D)) : Prop := ∀ (H0 F0 : Hp) (ts : List (Addr × D)) (env : Cs) (F : Hp) (σ : L2.St) (H : Hp) (Q : It → Hp → Prop),
  Rs X.K H0 F0 ts env F σ H → PoI X.K W H0 F0 ts F σ Q (g env) → iS X tg iter σ H Q
def kD : Key → D
  | .inl i => .int i
  | .inr s => .str s
theorem dv_kD {F : Hp} (k : Key) : Dv K F (kD k) (kV k) := by cases k <;> rfl
theorem dv_kDs {F : Hp} : ∀ ks : List Key, DvL K F (ks.map kD) (ks.map kV)
  | [] => rfl
  | k :: ks => ⟨_, _, rfl, dv_kD k, dv_kDs ks⟩
def itemsOf : D → Option (List D)
  | .lst xs => some xs
  | .tup xs => some xs
  | .dK es => some (es.map fun e => kD e.1)
  | .dT es => some (es.map fun e => .tup (e.1.map kD))
  | .str z => some (z.cps.toList.map fun c => .str ⟨#[c]⟩)
  | _ => none
theorem itl_ok {a : Addr} {F : Hp} {xs : List D} {vs : List V} (h : F a = some (.lst vs)) (t : DvL K F xs vs) : ItOk K (Itl K a) F xs := by
  intro F' H' s1 s2
  have hq : SqL K H' a vs := SqL.of (s2 _ _ (s1 _ _ h))
  refine ⟨fun i d e => ?_, vs, hq, by rw [t.length]; exact Nat.le_refl _⟩
  obtain ⟨v, ev, dv⟩ := t.at_ e
  refine ⟨⟨vs, v, hq, ev⟩, fun x H'' hy => ?_⟩
  obtain ⟨rfl, hy⟩ := hy
  have := hy vs hq
  rw [ev] at this
  cases this
  exact ⟨F', .refl s2, dv.mono s1⟩
theorem itt_ok {a : Addr} {F : Hp} {xs : List D} {vs : List V} (h : F a = some (.tup vs)) (t : DvL K F xs vs) : ItOk K (Itt K a) F xs := by
  intro F' H' s1 s2
  have hq : SqT K H' a vs := SqT.of (s2 _ _ (s1 _ _ h))
  refine ⟨fun i d e => ?_, vs, hq, by rw [t.length]; exact Nat.le_refl _⟩
  obtain ⟨v, ev, dv⟩ := t.at_ e
  refine ⟨⟨vs, v, hq, ev⟩, fun x H'' hy => ?_⟩
  obtain ⟨rfl, hy⟩ := hy
  have := hy vs hq
  rw [ev] at this
  cases this
  exact ⟨F', .refl s2, dv.mono s1⟩
theorem DvK.at_ {F : Hp} : ∀ {es : List (Key × D)} {kvs : List (Key × V)} {i : Nat} {k : Key} {v : V}, DvK K F es kvs → kvs[i]? = some (k, v) → ∃ d, es[i]? = some (k, d) ∧ Dv K F d v
  | [], _, _, _, _, h, e => by cases h; simp at e
  | (k', d') :: es, _, 0, _, _, ⟨w, r, z, h, t⟩, e => by subst z; cases e; exact ⟨d', rfl, h⟩
  | (k', d') :: es, _, i + 1, _, _, ⟨w, r, z, h, t⟩, e => by
    subst z
    obtain ⟨d, a, b⟩ := DvK.at_ (i := i) t (by simpa using e)
    exact ⟨d, by simpa using a, b⟩
theorem DvT.at_ {F : Hp} : ∀ {es : List (List Key × D)} {kvs : List (List Key × V)} {i : Nat} {k : List Key} {v : V}, DvT K F es kvs → kvs[i]? = some (k, v) → ∃ d, es[i]? = some (k, d) ∧ Dv K F d v
  | [], _, _, _, _, h, e => by cases h; simp at e
  | (k', d') :: es, _, 0, _, _, ⟨w, r, z, h, t⟩, e => by subst z; cases e; exact ⟨d', rfl, h⟩
  | (k', d') :: es, _, i + 1, _, _, ⟨w, r, z, h, t⟩, e => by
    subst z
    obtain ⟨d, a, b⟩ := DvT.at_ (i := i) t (by simpa using e)
    exact ⟨d, by simpa using a, b⟩
theorem itk_ok {a : Addr} {o : Obj} {F : Hp} {es : List (Key × D)} {kvs : List (Key × V)} (h : F a = some (.frz o (.dK kvs))) (t : DvK K F es kvs) : ItOk K (Itk a o kvs) F (es.map fun e => kD e.1) := by
  intro F' H' s1 s2
  have hq := s2 _ _ (s1 _ _ h)
  refine ⟨fun i d e => ?_, hq, by rw [List.length_map, t.length]; exact Nat.le_refl _⟩
  rw [List.getElem?_map] at e
  cases q : es[i]? with
  | none => rw [q] at e; cases e
  | some p =>
    rw [q] at e
    cases e
    have hl : i < kvs.length := by rw [t.length]; exact (List.getElem?_eq_some_iff.mp q).1
    refine ⟨⟨hq, hl⟩, fun x H'' hy => ?_⟩
    obtain ⟨rfl, k, v, ek, rfl⟩ := hy
    obtain ⟨d, ed, _⟩ := t.at_ ek
    rw [q] at ed
    cases ed
    exact ⟨F', .refl s2, dv_kD k⟩
theorem itkt_ok {a : Addr} {o : Obj} {F : Hp} {es : List (List Key × D)} {kvs : List (List Key × V)} (h : F a = some (.frz o (.dT kvs))) (t : DvT K F es kvs) : ItOk K (Itkt a o kvs) F (es.map fun e => .tup (e.1.map kD)) := by
  intro F' H' s1 s2
  have hq := s2 _ _ (s1 _ _ h)
  refine ⟨fun i d e => ?_, hq, by rw [List.length_map, t.length]; exact Nat.le_refl _⟩
  rw [List.getElem?_map] at e
  cases q : es[i]? with
  | none => rw [q] at e; cases e
  | some p =>
    rw [q] at e
    cases e
    have hl : i < kvs.length := by rw [t.length]; exact (List.getElem?_eq_some_iff.mp q).1
    refine ⟨⟨hq, hl⟩, fun x H'' hy => ?_⟩
    obtain ⟨rfl, k, v, b, ek, rfl, hb⟩ := hy
    obtain ⟨d, ed, _⟩ := t.at_ ek
    rw [q] at ed
    cases ed
    have sb : Same F' (upd F' b (.tup (k.map kV))) := fun c u e => by
      by_cases z : c = b
      · subst z
        rw [upd_same]
        have := s2 _ _ e
        rw [hb] at this
        exact this
      · rw [upd_ne z]; exact e
    refine ⟨upd F' b (.tup (k.map kV)), ⟨.refl _, fun n => n.upd (by intro _ z; cases z), sb, fun c u e => ?_, fun c hc => ?_⟩, b, _, rfl, upd_same, dv_kDs k⟩
    · by_cases z : c = b
      · subst z
        rw [upd_same] at e
        cases e
        exact hb
      · rw [upd_ne z] at e; exact s2 _ _ e
    · by_cases z : c = b
      · subst z
        exact .inr (.inr ⟨_, upd_same⟩)
      · rw [upd_ne z] at hc; exact .inl hc
theorem its_ok {F : Hp} (z : Str) : ItOk K (Its z) F (z.cps.toList.map fun c => .str ⟨#[c]⟩) := by
  intro F' H' s1 s2
  refine ⟨fun i d e => ?_, by show z.cps.size ≤ _; simp⟩
  rw [List.getElem?_map] at e
  cases q : z.cps.toList[i]? with
  | none => rw [q] at e; cases e
  | some c =>
    rw [q] at e
    cases e
    rw [Array.getElem?_toList] at q
    refine ⟨(Array.getElem?_eq_some_iff.mp q).1, fun x H'' hy => ?_⟩
    obtain ⟨rfl, c', e', rfl⟩ := hy
    rw [q] at e'
    cases e'
    exact ⟨F', .refl s2, rfl⟩
def giA (g : Cs → Out RV) : Cs → Out (List D) := fun env => (gSet g env).bind fun d env1 => match itemsOf d with
  | some ds => .ok ds env1
  | none => .stuck
theorem PoF.imp_eS {e : Expr} {g : Cs → Out D} (h : DF X W e g) {H0 F0 : Hp} {ts : List (Addr × D)} {env : Cs} {F : Hp} {σ : L2.St} {H : Hp} {Q : VK} (R : Rs X.K H0 F0 ts env F σ H) (p : PoF X.K W H0 F0 ts F σ Q (g env)) : eS X e σ H Q := h H0 F0 ts env F σ H Q R p
/-- any list, tuple, dict or text -/
theorem di_any {tg e : Expr} {g : Cs → Out RV} (h : DE X W e g) : DI X W tg e (giA g) := by
  intro H0 F0 ts env F σ H Q R p
  unfold giA at p
  cases q : gSet g env with
  | stuck => exact PI.sem (pi_list pe_sem) (h.df H0 F0 ts env F σ H _ R (by rw [q]; rw [q] at p; exact p.elim))
  | exc c => exact PI.sem (pi_list pe_sem) (h.df H0 F0 ts env F σ H _ R (by rw [q]; rw [q] at p; exact p))
  | ok d env1 =>
    rw [q] at p
    dsimp only [Out.bind] at p
    cases d with
    | lst xs =>
      refine PI.sem (pi_list pe_sem) (h.df H0 F0 ts env F σ H _ R ?_)
      rw [q]
      rintro v F1 H1 R1 ⟨a, vs, rfl, h1, t1⟩ s1
      exact ⟨a, rfl, ⟨vs, SqL.of (R1.fh _ _ h1)⟩, p _ F1 H1 R1 s1 (itl_ok h1 t1)⟩
    | tup xs =>
      refine PI.sem (pi_tup pe_sem) (h.df H0 F0 ts env F σ H _ R ?_)
      rw [q]
      rintro v F1 H1 R1 ⟨a, vs, rfl, h1, t1⟩ s1
      exact ⟨a, rfl, ⟨vs, SqT.of (R1.fh _ _ h1)⟩, p _ F1 H1 R1 s1 (itt_ok h1 t1)⟩
    | dK es =>
      refine PI.sem (pi_keys pe_sem) (h.df H0 F0 ts env F σ H _ R ?_)
      rw [q]
      rintro v F1 H1 R1 ⟨a, o, kvs, rfl, h1, t1⟩ s1
      exact ⟨a, o, rfl, .inl ⟨kvs, R1.fh _ _ h1, p _ F1 H1 R1 s1 (itk_ok h1 t1)⟩⟩
    | dT es =>
      refine PI.sem (pi_keys pe_sem) (h.df H0 F0 ts env F σ H _ R ?_)
      rw [q]
      rintro v F1 H1 R1 ⟨a, o, kvs, rfl, h1, t1⟩ s1
      exact ⟨a, o, rfl, .inr ⟨kvs, R1.fh _ _ h1, p _ F1 H1 R1 s1 (itkt_ok h1 t1)⟩⟩
    | str z =>
      refine PI.sem (pi_str pe_sem) (h.df H0 F0 ts env F σ H _ R ?_)
      rw [q]
      rintro v F1 H1 R1 rfl s1
      exact ⟨z, rfl, p _ F1 H1 R1 s1 (its_ok z)⟩
    | _ => exact p.elim
/-- ranges -/
def rngL (lo hi : Int) : List D := (List.range (hi - lo).toNat).map fun i => .int (lo + (i : Nat))
theorem itr_ok {F : Hp} (lo hi : Int) : ItOk K (Itr lo (hi - lo).toNat) F (rngL lo hi) := by
  intro F' H' s1 s2
  refine ⟨fun i d e => ?_, by show (hi - lo).toNat ≤ _; simp [rngL]⟩
  unfold rngL at e
  rw [List.getElem?_map] at e
  cases q : (List.range (hi - lo).toNat)[i]? with
  | none => rw [q] at e; cases e
  | some c =>
    rw [q] at e
    cases e
    obtain ⟨hl, e⟩ := List.getElem?_eq_some_iff.mp q
    simp only [List.getElem_range] at e
    subst e
    refine ⟨by rw [List.length_range] at hl; exact hl, fun x H'' hy => ?_⟩
    obtain ⟨rfl, rfl⟩ := hy
    exact ⟨F', .refl s2, rfl⟩
def rgB (i : Int) : Bool := decide (-(2 ^ 62) ≤ i) && decide (i < 2 ^ 62)
theorem rgB_ok {i : Int} (h : rgB i = true) : -(2 ^ 62) ≤ i ∧ i < 2 ^ 62 := by
  unfold rgB at h
  rw [Bool.and_eq_true, decide_eq_true_eq, decide_eq_true_eq] at h
  exact h
def giR1 (g : Cs → Out RV) : Cs → Out (List D) := fun env => (gSet g env).bind fun d env1 => match d with
  | .int j => if rgB j = true then .ok (rngL 0 j) env1 else .stuck
  | _ => .stuck
theorem di_range1 {tg a : Expr} {g : Cs → Out RV} {p0 pos : Pos} (hg : Gl X "range") (hm : X.mg "range" = none) (h : DE X W a g) (hs : starEach [a] X.env = [(false, eval a X.env)] := by rfl) : DI X W tg (.Call (.Name "range" p0) [a] [] pos) (giR1 g) := by
  intro H0 F0 ts env F σ H Q R p
  refine PI.sem (pi_range1 (ta := tCons (eS X a) tNil) hg hm (pa_cons pe_sem pa_nil hs) hs) (h.df H0 F0 ts env F σ H _ R ?_)
  unfold giR1 at p
  cases q : gSet g env with
  | stuck => rw [q] at p; exact p.elim
  | exc c => rw [q] at p; exact p
  | ok d env1 =>
    rw [q] at p
    dsimp only [Out.bind] at p
    intro v F1 H1 R1 h1 s1
    cases d with
    | int j =>
      cases (show v = .int j from h1)
      dsimp only at p
      split at p
      · rename_i hz
        refine ⟨j, rfl, (rgB_ok hz).1, (rgB_ok hz).2, p _ F1 H1 R1 s1 ?_⟩
        have := itr_ok (K := X.K) (F := F1) 0 j
        rwa [Int.sub_zero] at this
      · exact p.elim
    | _ => exact p.elim
def giR2 (ga gb : Cs → Out RV) : Cs → Out (List D) := fun env => (gSet ga env).bind fun d env1 => (gSet gb env1).bind fun e env2 => match d, e with
  | .int i, .int j => if (rgB i && rgB j) = true then .ok (rngL i j) env2 else .stuck
  | _, _ => .stuck
theorem di_range2 {tg a b : Expr} {ga gb : Cs → Out RV} {p0 pos : Pos} (hg : Gl X "range") (hm : X.mg "range" = none) (ha : DE X W a ga) (hb : DE X W b gb) (hs : starEach [a, b] X.env = [(false, eval a X.env), (false, eval b X.env)] := by rfl)
    (hs2 : starEach [b] X.env = [(false, eval b X.env)] := by rfl) : DI X W tg (.Call (.Name "range" p0) [a, b] [] pos) (giR2 ga gb) := by
  intro H0 F0 ts env F σ H Q R p
  refine PI.sem (pi_range2 (ta := tCons (eS X a) (tCons (eS X b) tNil)) hg hm (pa_cons pe_sem (pa_cons pe_sem pa_nil hs2) (by rw [hs, hs2])) hs hs2) (ha.df H0 F0 ts env F σ H _ R ?_)
  unfold giR2 at p
  cases q : gSet ga env with
  | stuck => rw [q] at p; exact p.elim
  | exc c => rw [q] at p; exact p
  | ok d env1 =>
    rw [q] at p
    dsimp only [Out.bind] at p
    intro v F1 H1 R1 h1 s1
    refine hb.df H0 F0 ts env1 F1 σ H1 _ R1 ?_
    cases q2 : gSet gb env1 with
    | stuck => rw [q2] at p; exact p.elim
    | exc c => rw [q2] at p; exact p
    | ok e env2 =>
      rw [q2] at p
      dsimp only at p
      intro w F2 H2 R2 h2 s2
      cases d with
      | int i =>
        cases e with
        | int j =>
          cases (show v = .int i from h1)
          cases (show w = .int j from h2)
          dsimp only at p
          split at p
          · rename_i hz
            rw [Bool.and_eq_true] at hz
            exact ⟨i, j, rfl, ⟨(rgB_ok hz.1).1, (rgB_ok hz.1).2, (rgB_ok hz.2).1, (rgB_ok hz.2).2⟩, p _ F2 H2 R2 (s1.trans s2) (itr_ok i j)⟩
          · exact p.elim
        | _ => exact p.elim
      | _ => exact p.elim
/-- enumerate of a list -/
def giE (g : Cs → Out RV) : Cs → Out (List D) := fun env => (gSet g env).bind fun d env1 => match d with
  | .lst xs => .ok (xs.zipIdx.map fun p => .tup [.int (p.2 : Nat), p.1]) env1
  | _ => .stuck
theorem ite_ok {a : Addr} {F : Hp} {xs : List D} {vs : List V} (h : F a = some (.lst vs)) (t : DvL K F xs vs) : ItOk K (Ite K a) F (xs.zipIdx.map fun p => .tup [.int (p.2 : Nat), p.1]) := by
  intro F' H' s1 s2
  have hq : SqL K H' a vs := SqL.of (s2 _ _ (s1 _ _ h))
  refine ⟨fun i d e => ?_, vs, hq, by simp [t.length]⟩
  rw [List.getElem?_map, List.getElem?_zipIdx] at e
  cases q : xs[i]? with
  | none => rw [q] at e; cases e
  | some d' =>
    rw [q] at e
    obtain ⟨v, ev, dv⟩ := t.at_ q
    have e : D.tup [.int ((0 + i : Nat) : Int), d'] = d := Option.some.inj e
    rw [Nat.zero_add] at e
    subst e
    refine ⟨⟨vs, v, hq, ev⟩, fun x H'' hy => ?_⟩
    obtain ⟨T, x', rfl, hT, rfl, hy⟩ := hy
    have := hy vs hq
    rw [ev] at this
    cases this
    have x := Ext.new (o := .tup [.int (i : Nat), v]) s2 hT
    exact ⟨_, x, T, _, rfl, upd_same, _, _, rfl, rfl, v, [], rfl, (dv.mono s1).mono x.ff, rfl⟩
theorem di_enum {e : Expr} {elts : List Expr} {kk : Nat} {g : Cs → Out RV} {p0 pos tpos : Pos} (hg : Gl X "enumerate") (hm : X.mg "enumerate" = none) (h : DE X W e g) (hs : starEach [e] X.env = [(false, eval e X.env)] := by rfl) :
    DI X W (.Tuple elts kk tpos) (.Call (.Name "enumerate" p0) [e] [] pos) (giE g) := by
  intro H0 F0 ts env F σ H Q R p
  refine PI.sem (pi_enum (ta := tCons (eS X e) tNil) hg hm (pa_cons pe_sem pa_nil hs) hs) (h.df H0 F0 ts env F σ H _ R ?_)
  unfold giE at p
  cases q : gSet g env with
  | stuck => rw [q] at p; exact p.elim
  | exc c => rw [q] at p; exact p
  | ok d env1 =>
    rw [q] at p
    dsimp only [Out.bind] at p
    intro v F1 H1 R1 h1 s1
    cases d with
    | lst xs =>
      obtain ⟨a, vs, rfl, h1, t1⟩ := h1
      exact ⟨a, vs, rfl, SqL.of (R1.fh _ _ h1), p _ F1 H1 R1 s1 (ite_ok h1 t1)⟩
    | _ => exact p.elim

/-! ### for -/
def forL (t : D → Cs → Option Cs) (b : Cs → OS) : List D → Cs → OS
  | [], env => .nx env
  | d :: ds, env => match t d env with
    | none => .stuck
    | some env1 => match b env1 with
      | .nx env2 => forL t b ds env2
      | .ct env2 => forL t b ds env2
      | .bk env2 => .nx env2
      | .stuck => .stuck
      | .exc c => .exc c
      | .rt r => .rt r
def sFor (gi : Cs → Out (List D)) (t : D → Cs → Option Cs) (b : Cs → OS) : Cs → OS := fun env => (gi env).bs fun ds env1 => forL t b ds env1
theorem PV.from_ {H0 F0 : Hp} {ts : List (Addr × D)} {env : Cs} {F H : Hp} {σ : L2.St} {Q : VK} {r : Rn} (R : Rs K H0 F0 ts env F σ H) (p : PV K F0 H0 Q (some r)) : PV K F H0 Q (some r) := by
  cases r with
  | f d => exact fun v F' H' x dv => p v F' H' (Ext.from_ R x) dv
  | t d => exact fun a F' H' x n nf o => p a F' H' (Ext.from_ R x) n nf o
theorem ds_for {tg iter : Expr} {body : List Stmt} {sl : List Nat} {gi : Cs → Out (List D)} {t : D → Cs → Option Cs} {b : Cs → OS} {pos : Pos} (hp : PassesOwn (model X.prog X.w) X.A X.env X.xe) (hc : X.calm = true) (hi : DI X W tg iter gi) (hg : DG X tg sl t) (hb : DB X W body b)
    (hs : ∀ x, foldedSetIterable iter X.env x = pure x := by intro _; rfl) : DS X W (.For tg iter body [] pos) (sFor gi t b) := by
  intro H0 F0 env F σ H D R p
  refine PS.sem (ps_for hp hc pi_sem pg_sem pss_sem hs) (hi H0 F0 [] env F σ H _ R ?_)
  unfold sFor at p
  cases q : gi env with
  | stuck => rw [q] at p; exact p.elim
  | exc c => rw [q] at p; exact p
  | ok ds env1 =>
    rw [q] at p
    dsimp only [Out.bs] at p
    intro J F1 H1 R1 s1 it
    refine ⟨fun i m σ H => i ≤ ds.length ∧ m = ds.length - i ∧ ∃ env F, Rs X.K H0 F1 [] env F σ H ∧ PoS X.K W H0 F0 D (forL t b (ds.drop i) env), ⟨_, Nat.zero_le _, rfl, env1, F1, R1.from_, by simpa using p⟩, ?_⟩
    rintro i m σ2 H2 ⟨hi2, rfl, env2, F2, R2, p2⟩
    obtain ⟨go, stop⟩ := it F2 H2 R2.f0 R2.fh
    by_cases hlt : i < ds.length
    · refine .inr ⟨(go i ds[i] (List.getElem?_eq_getElem hlt)).1, fun σ' H' => ∃ env F, Rs X.K H0 F1 [] env F σ' H' ∧ PoS X.K W H0 F0 D (forL t b (ds.drop (i + 1)) env), fun σ' H' h => ⟨ds.length - (i + 1), by omega, hlt, rfl, h⟩, fun x H3 hy => ?_⟩
      obtain ⟨F3, x3, dv⟩ := (go i ds[i] (List.getElem?_eq_getElem hlt)).2 x H3 hy
      rw [List.drop_eq_getElem_cons hlt] at p2
      dsimp only [forL] at p2
      cases q2 : t ds[i] env2 with
      | none => rw [q2] at p2; exact p2.elim
      | some env3 =>
        rw [q2] at p2
        dsimp only at p2
        refine hg H0 F1 [] env2 F3 σ2 H3 ds[i] x env3 _ (R2.ext x3) dv q2 fun σ4 R4 _ => hb H0 F1 env3 F3 σ4 H3 _ R4 ?_
        cases q3 : b env3 with
        | nx env4 => rw [q3] at p2; exact fun F5 σ5 H5 R5 => ⟨env4, F5, R5, p2⟩
        | ct env4 => rw [q3] at p2; exact fun F5 σ5 H5 R5 => ⟨env4, F5, R5, p2⟩
        | bk env4 => rw [q3] at p2; exact fun F5 σ5 H5 R5 => p2 F5 σ5 H5 (R1.back R5)
        | stuck => rw [q3] at p2; exact p2.elim
        | exc c => rw [q3] at p2; exact p2
        | rt r => rw [q3] at p2; exact PV.from_ R1 p2
    · have e : i = ds.length := by omega
      subst e
      rw [List.drop_length] at p2
      exact .inl ⟨stop, p2 F2 σ2 H2 (R1.back R2)⟩

/-! ### while -/
def whileL (c : Cs → Out Bool) (b : Cs → OS) : Nat → Cs → OS
  | 0, _ => .stuck
  | n + 1, env => (c env).bs fun k env1 => if k = true then match b env1 with
      | .nx env2 => whileL c b n env2
      | .ct env2 => whileL c b n env2
      | .bk env2 => .nx env2
      | .stuck => .stuck
      | .exc c => .exc c
      | .rt r => .rt r
    else .nx env1
def sWhile (fuel : Cs → Nat) (c : Cs → Out Bool) (b : Cs → OS) : Cs → OS := fun env => whileL c b (fuel env) env
theorem ds_while (fuel : Cs → Nat) {c : Expr} {body : List Stmt} {gc : Cs → Out Bool} {b : Cs → OS} {pos : Pos} (hp : PassesOwn (model X.prog X.w) X.A X.env X.xe) (hc : DT X W c gc) (hb : DB X W body b) : DS X W (.While c body [] pos) (sWhile fuel gc b) := by
  intro H0 F0 env F σ H D R p
  refine PS.sem (ps_while hp pt_sem pss_sem) ⟨fun m σ H => ∃ env F, Rs X.K H0 F0 [] env F σ H ∧ PoS X.K W H0 F0 D (whileL gc b m env), ⟨_, env, F, R, p⟩, ?_⟩
  rintro m σ2 H2 ⟨env2, F2, R2, p2⟩
  cases m with
  | zero => exact p2.elim
  | succ m =>
    refine hc H0 F0 [] env2 F2 σ2 H2 _ R2 ?_
    dsimp only [whileL] at p2
    cases q : gc env2 with
    | stuck => rw [q] at p2; exact p2.elim
    | exc c => rw [q] at p2; exact p2
    | ok k env3 =>
      rw [q] at p2
      dsimp only [Out.bs] at p2
      intro F3 H3 R3 s3
      cases k with
      | false =>
        rw [if_neg (by decide)] at p2 ⊢
        exact p2 F3 σ2 H3 R3
      | true =>
        rw [if_pos rfl] at p2 ⊢
        refine ⟨fun σ' H' => ∃ env F, Rs X.K H0 F0 [] env F σ' H' ∧ PoS X.K W H0 F0 D (whileL gc b m env), fun σ' H' h => ⟨m, Nat.lt_succ_self _, h⟩, hb H0 F0 env3 F3 σ2 H3 _ R3 ?_⟩
        cases q3 : b env3 with
        | nx env4 => rw [q3] at p2; exact fun F5 σ5 H5 R5 => ⟨env4, F5, R5, p2⟩
        | ct env4 => rw [q3] at p2; exact fun F5 σ5 H5 R5 => ⟨env4, F5, R5, p2⟩
        | bk env4 => rw [q3] at p2; exact p2
        | stuck => rw [q3] at p2; exact p2.elim
        | exc c => rw [q3] at p2; exact p2
        | rt r => rw [q3] at p2; exact p2
end DL

namespace DL
open PySem PySem.Spec PyProof.Rows L2
variable [TabCtx] {K : PySem.W.Frag} {X : Cx} {W : WN}

/-! ### list comprehensions -/
def wipeE (env : Cs) : List Nat → Cs
  | [] => env
  | v :: vs => (wipeE env vs).set v .un
def backE (env env' : Cs) : List Nat → Cs
  | [] => env'
  | v :: vs => (backE env env' vs).set v (env.getD v .un)
def freeAt (env : Cs) (vs : List Nat) : Bool := vs.all fun v => match env[v]? with
  | some (.own _) => false
  | _ => true
theorem Rs.wipe {H0 F0 : Hp} {ts : List (Addr × D)} {env : Cs} {F H : Hp} {σ : L2.St} (R : Rs K H0 F0 ts env F σ H) : ∀ vs, Rs K H0 F0 ts (wipeE env vs) F (L2.wipe σ vs) H
  | [] => R
  | v :: vs => (Rs.wipe R vs).forget v none
theorem wipe_out {σ : L2.St} {j : Nat} : ∀ {vs : List Nat}, j ∉ vs → (L2.wipe σ vs)[j]? = σ[j]?
  | [], _ => rfl
  | v :: vs, h => by
    have h1 : j ≠ v := fun z => h (by simp [z])
    have h2 : j ∉ vs := fun z => h (List.mem_cons_of_mem _ z)
    unfold L2.wipe
    rw [List.getElem?_set_ne (Ne.symm h1)]
    exact wipe_out h2
theorem wipe_in {σ : L2.St} {j : Nat} : ∀ {vs : List Nat}, j ∈ vs → j < σ.length → (L2.wipe σ vs)[j]? = some none
  | v :: vs, h, hl => by
    unfold L2.wipe
    by_cases z : j = v
    · subst z
      rw [List.getElem?_set_self (by rw [wipe_length]; exact hl)]
    · rw [List.getElem?_set_ne (Ne.symm z)]
      exact wipe_in ((List.mem_cons.mp h).resolve_left z) hl
theorem wipe_eq {σ σ' : L2.St} {vs : List Nat} (hl : σ'.length = σ.length) (h : ∀ j, j ∉ vs → σ'[j]? = σ[j]?) : L2.wipe σ' vs = L2.wipe σ vs := by
  apply List.ext_getElem?
  intro j
  by_cases m : j ∈ vs
  · by_cases hj : j < σ.length
    · rw [wipe_in m hj, wipe_in m (by rw [hl]; exact hj)]
    · rw [List.getElem?_eq_none (by rw [wipe_length, hl]; omega), List.getElem?_eq_none (by rw [wipe_length]; omega)]
  · rw [wipe_out m, wipe_out m, h j m]
theorem backE_get {env env' : Cs} (hl : env'.length = env.length) : ∀ {vs : List Nat} {j : Nat} {c : Cell}, (backE env env' vs)[j]? = some c → (j ∈ vs ∧ env[j]? = some c) ∨ (j ∉ vs ∧ env'[j]? = some c)
  | [], j, c, h => .inr ⟨by simp, h⟩
  | v :: vs, j, c, h => by
    unfold backE at h
    have hlen : ∀ vs, (backE env env' vs).length = env'.length := fun vs => by
      induction vs with
      | nil => rfl
      | cons v vs ih => unfold backE; rw [List.length_set, ih]
    rcases get_set h with ⟨rfl, rfl, hlt⟩ | ⟨q, h⟩
    · refine .inl ⟨List.mem_cons_self, ?_⟩
      rw [hlen, hl] at hlt
      rw [List.getD_eq_getElem?_getD, List.getElem?_eq_getElem hlt]
      rfl
    · rcases backE_get hl h with ⟨m, e⟩ | ⟨m, e⟩
      · exact .inl ⟨List.mem_cons_of_mem _ m, e⟩
      · exact .inr ⟨by simp only [List.mem_cons, not_or]; exact ⟨q, m⟩, e⟩
theorem backE_length {env env' : Cs} : ∀ vs, (backE env env' vs).length = env'.length
  | [] => rfl
  | v :: vs => by unfold backE; rw [List.length_set, backE_length vs]
/-- from the block back to the def's own slots -/
theorem Rs.unblock {H0 F0 F0' : Hp} {ts0 ts : List (Addr × D)} {env env' : Cs} {F F' H H' : Hp} {σ σ' : L2.St} {vs : List Nat} (r0 : Rs K H0 F0 ts0 env F σ H) (r : Rs K H0 F0' ts env' F' σ' H') (s : Same F F') (hl : σ'.length = σ.length) (h : ∀ j, j ∉ vs → σ'[j]? = σ[j]?) (hf : freeAt env vs = true) :
    Rs K H0 F0' ts (backE env env' vs) F' σ H' := by
  have hle : env'.length = env.length := by rw [r.len, hl, r0.len]
  have no : ∀ j d, j ∈ vs → env[j]? ≠ some (.own d) := fun j d m e => by
    have q := List.all_eq_true.mp hf j m
    rw [e] at q
    cases q
  have old : ∀ {j d}, (backE env env' vs)[j]? = some (.own d) → j ∉ vs ∧ env'[j]? = some (.own d) := fun {j d} e => by
    rcases backE_get hle e with ⟨m, e⟩ | z
    · exact absurd e (no j d m)
    · exact z
  refine { r with len := by rw [backE_length, r.len, hl], cells := fun j c e => ?_, dj := fun i j d d' a e1 e2 s1 s2 => ?_, tdj := fun i d a e1 s1 => ?_ }
  · rcases backE_get hle e with ⟨m, e⟩ | ⟨m, e⟩
    · have c0 := r0.cells j c e
      cases c with
      | un => trivial
      | frz d => obtain ⟨v, e, q⟩ := c0; exact ⟨v, e, q.mono s⟩
      | own d => exact absurd e (no j d m)
    · rw [← h j m]; exact r.cells j c e
  · obtain ⟨m1, e1⟩ := old e1
    obtain ⟨m2, e2⟩ := old e2
    exact r.dj i j d d' a e1 e2 (by rw [h i m1]; exact s1) (by rw [h j m2]; exact s2)
  · obtain ⟨m1, e1⟩ := old e1
    exact r.tdj i d a e1 (by rw [h i m1]; exact s1)
def lcL (vs : List Nat) (t : D → Cs → Option Cs) (c : Cs → Out Bool) (g : Cs → Out D) : List D → Cs → List D → Out RV
  | [], env, acc => .ok (.tmp (.lst acc)) env
  | d :: ds, env, acc => if freeAt env vs = true then match t d (wipeE env vs) with
    | none => .stuck
    | some env1 => (c env1).bind fun b env2 => if b = true then (g env2).bind fun x env3 => if sz (acc.length + 1) = true then lcL vs t c g ds (backE env env3 vs) (acc ++ [x]) else .stuck
        else lcL vs t c g ds (backE env env2 vs) acc
    else .stuck
def gLc (vs : List Nat) (gi : Cs → Out (List D)) (t : D → Cs → Option Cs) (c : Cs → Out Bool) (g : Cs → Out D) : Cs → Out RV := fun env => (gi env).bind fun ds env1 => lcL vs t c g ds env1 []
/-- the tests of a comprehension -/
def gYes : Cs → Out Bool := fun env => .ok true env
def tsS (X : Cx) (ifs : List Expr) : TT := fun σ H Q => Bx (∀ (pins : List (Addr × Obj)) (s : Shared), Inv X pins σ H s →
    wpAny (model X.prog X.w) X.A (forIn ifs true fun c r => if r = true then do let ok ← isTrue c X.env (eval c X.env); pure (ForInStep.yield ok) else pure (ForInStep.yield r)) (TP X pins σ Q) X.xe s)
def DTs (X : Cx) (W : WN) (ifs : List Expr) (g : Cs → Out Bool) : Prop := ∀ (H0 F0 : Hp) (ts : List (Addr × D)) (env : Cs) (F : Hp) (σ : L2.St) (H : Hp) (Q : Bool → Hp → Prop),
  Rs X.K H0 F0 ts env F σ H → PoT X.K W H0 F0 ts F σ Q (g env) → tsS X ifs σ H Q
theorem dts_nil : DTs X W [] gYes := fun H0 F0 ts env F σ H Q R p => .mk fun pins s I => pts_nil.run pins s σ H Q I (p F H R (.refl _))
theorem dts_one {c : Expr} {g : Cs → Out Bool} (h : DT X W c g) : DTs X W [c] g := fun H0 F0 ts env F σ H Q R p => .mk fun pins s I => (pts_one pt_sem).run pins s σ H Q I (h H0 F0 ts env F σ H Q R p)
/-- nothing is wished of an exception (within a comprehension) -/
def W0 : WN := fun _ _ => False
theorem lc_ok {elt tg iter : Expr} {ifs : List Expr} {scope : Scope} {vs sl : List Nat} {gi : Cs → Out (List D)} {t : D → Cs → Option Cs} {gc : Cs → Out Bool} {g : Cs → Out D}
    (hi : DI X W tg iter gi) (hsl : ∀ i ∈ sl, i ∈ vs)
    (hg : ∀ (s : Shared) (H : Hp) (C : Addr) (cl : List (Str × Addr)) (fp : List Addr), DG (X.blk s H scope (compEnvC scope cl C X.env) fp) tg sl t)
    (ht : ∀ (s : Shared) (H : Hp) (C : Addr) (cl : List (Str × Addr)) (fp : List Addr), DTs (X.blk s H scope (compEnvC scope cl C X.env) fp) W0 ifs gc)
    (he : ∀ (s : Shared) (H : Hp) (C : Addr) (cl : List (Str × Addr)) (fp : List Addr), DF (X.blk s H scope (compEnvC scope cl C X.env) fp) W0 elt g)
    {H0 F0 : Hp} {ts : List (Addr × D)} {env : Cs} {F : Hp} {σ : L2.St} {H : Hp} {Q : VK} (R : Rs X.K H0 F0 ts env F σ H) (p : PoE X.K W H0 F0 ts F σ Q (gLc vs gi t gc g env))
    (nx : ∀ c ds env1, gi env = .ok ds env1 → lcL vs t gc g ds env1 [] ≠ .exc c) :
    tLc (iS X tg iter) (fun v σ H Q => ∀ (s : Shared) (H' : Hp) (C : Addr) (cl : List (Str × Addr)) (fp : List Addr), tgS (X.blk s H' scope (compEnvC scope cl C X.env) fp) tg v σ H Q)
      (fun σ H Q => ∀ (s : Shared) (H' : Hp) (C : Addr) (cl : List (Str × Addr)) (fp : List Addr), tsS (X.blk s H' scope (compEnvC scope cl C X.env) fp) ifs σ H Q)
      (fun σ H Q => ∀ (s : Shared) (H' : Hp) (C : Addr) (cl : List (Str × Addr)) (fp : List Addr), eS (X.blk s H' scope (compEnvC scope cl C X.env) fp) elt σ H Q) vs σ H Q := by
  refine hi H0 F0 ts env F σ H _ R ?_
  unfold gLc at p
  cases q : gi env with
  | stuck => rw [q] at p; exact p.elim
  | exc c => rw [q] at p; exact p
  | ok ds env1 =>
    have nx1 := fun c => nx c ds env1 q
    rw [q] at p
    dsimp only [Out.bind] at p
    intro J F1 H1 R1 s1 it L hL
    have R1' := (R1.push (d := .lst []) (Ext.tmp (o := .lst []) R1.fh hL) (.of hL) (R1.fh.free hL) ⟨[], upd_same, rfl⟩).from_
    refine ⟨fun i m H => i ≤ ds.length ∧ m = ds.length - i ∧ ∃ env F acc, Rs X.K H0 F1 ((L, .lst acc) :: ts) env F σ H ∧ PoE X.K W H0 F0 ts F1 σ Q (lcL vs t gc g (ds.drop i) env acc) ∧ ∀ c, lcL vs t gc g (ds.drop i) env acc ≠ .exc c,
      ⟨_, Nat.zero_le _, rfl, env1, F1, [], R1', by simpa using p.same s1, by simpa using nx1⟩, ?_⟩
    rintro i m H2 ⟨hi2, rfl, env2, F2, acc, R2, p2, nx2⟩
    obtain ⟨go, stop⟩ := it F2 H2 R2.f0 R2.fh
    by_cases hlt : i < ds.length
    · refine .inr ⟨(go i ds[i] (List.getElem?_eq_getElem hlt)).1, fun H' => ∃ env F acc, Rs X.K H0 F1 ((L, .lst acc) :: ts) env F σ H' ∧ PoE X.K W H0 F0 ts F1 σ Q (lcL vs t gc g (ds.drop (i + 1)) env acc) ∧ ∀ c, lcL vs t gc g (ds.drop (i + 1)) env acc ≠ .exc c,
        fun H' h => ⟨ds.length - (i + 1), by omega, hlt, rfl, h⟩, fun x H3 hy s' H' C cl fp => ?_⟩
      obtain ⟨F3, x3, dv⟩ := (go i ds[i] (List.getElem?_eq_getElem hlt)).2 x H3 hy
      rw [List.drop_eq_getElem_cons hlt] at p2 nx2
      dsimp only [lcL] at p2 nx2
      by_cases hf : freeAt env2 vs = true
      · rw [if_pos hf] at p2 nx2
        cases q2 : t ds[i] (wipeE env2 vs) with
        | none => rw [q2] at p2; exact p2.elim
        | some env3 =>
          rw [q2] at p2 nx2
          dsimp only at p2 nx2
          have R3 := R2.ext x3
          refine hg s' H' C cl fp H0 F1 _ (wipeE env2 vs) F3 (L2.wipe σ vs) H3 ds[i] x env3 _ (Rs.wipe R3 vs) dv q2 fun σ4 R4 o4 => ?_
          have out : ∀ j, j ∉ vs → σ4[j]? = σ[j]? := fun j m => (o4.2 j fun z => m (hsl j z)).trans (wipe_out m)
          have hl4 : σ4.length = σ.length := o4.1.trans (wipe_length σ vs)
          refine ⟨wipe_eq hl4 out, fun s2 H2' C2 cl2 fp2 => ht s2 H2' C2 cl2 fp2 H0 F1 _ env3 F3 σ4 H3 _ R4 ?_⟩
          cases q3 : gc env3 with
          | stuck => rw [q3] at p2; exact p2.elim
          | exc c => rw [q3] at nx2; exact absurd rfl (nx2 c)
          | ok b env4 =>
            rw [q3] at p2 nx2
            dsimp only [Out.bind] at p2 nx2
            intro F5 H5 R5 s5
            cases b with
            | false =>
              rw [if_neg (by decide)] at p2 nx2 ⊢
              exact ⟨_, F5, acc, R3.unblock R5 s5 hl4 out hf, p2, nx2⟩
            | true =>
              rw [if_pos rfl] at p2 nx2 ⊢
              intro s6 H6' C6 cl6 fp6
              refine he s6 H6' C6 cl6 fp6 H0 F1 _ env4 F5 σ4 H5 _ R5 ?_
              cases q4 : g env4 with
              | stuck => rw [q4] at p2; exact p2.elim
              | exc c => rw [q4] at nx2; exact absurd rfl (nx2 c)
              | ok y env5 =>
                rw [q4] at p2 nx2
                dsimp only at p2 nx2
                intro w F6 H6 R6 dw s6
                by_cases hz : sz (acc.length + 1) = true
                · rw [if_pos hz] at p2 nx2
                  obtain ⟨⟨ws, hw, tw⟩, _⟩ := R6.tmp (L, .lst acc) List.mem_cons_self
                  refine ⟨ws, hw, by rw [tw.length]; exact sz_lt hz, _, F6, acc ++ [y], ?_, p2, nx2⟩
                  have R7 := R3.unblock R6 (s5.trans s6) hl4 out hf
                  exact R7.writeT ⟨_, upd_same, tw.app ⟨w, [], rfl, dw, rfl⟩⟩
                · rw [if_neg hz] at p2; exact p2.elim
      · rw [if_neg hf] at p2; exact p2.elim
    · have e : i = ds.length := by omega
      subst e
      rw [List.drop_length] at p2
      exact .inl ⟨stop, p2 (.ref L) F2 H2 (R1.back R2) ⟨L, rfl, List.mem_cons_self⟩ R2.f0⟩
/-- tests and elements within a comprehension raise nothing -/
def lcL_exc {vs : List Nat} {t : D → Cs → Option Cs} {c : Cs → Out Bool} {g : Cs → Out D} (hc : ∀ env e, c env ≠ .exc e) (hg : ∀ env e, g env ≠ .exc e) : ∀ (ds : List D) (env : Cs) (acc : List D) (e : Str), lcL vs t c g ds env acc ≠ .exc e
  | [], _, _, _ => fun h => by cases h
  | d :: ds, env, acc, e => fun h => by
    dsimp only [lcL] at h
    split at h
    · split at h
      · cases h
      · rename_i env1 _
        cases q : c env1 with
        | stuck => rw [q] at h; cases h
        | exc x => exact hc env1 x q
        | ok b env2 =>
          rw [q] at h
          dsimp only [Out.bind] at h
          split at h
          · cases q2 : g env2 with
            | stuck => rw [q2] at h; cases h
            | exc x => exact hg env2 x q2
            | ok x env3 =>
              rw [q2] at h
              dsimp only at h
              split at h
              · exact lcL_exc hc hg ds _ _ e h
              · cases h
          · exact lcL_exc hc hg ds _ _ e h
    · cases h
/-- an exception in a comprehension's element is not served: it is stuck there -/
def noE {α : Type} (g : Cs → Out α) : Cs → Out α := fun env => match g env with
  | .exc _ => .stuck
  | o => o
theorem noE_exc {α : Type} (g : Cs → Out α) (env : Cs) (e : Str) : noE g env ≠ .exc e := fun h => by
  unfold noE at h
  split at h
  · cases h
  · rename_i z
    exact z e h
theorem DF.no {e : Expr} {g : Cs → Out D} (h : DF X W e g) : DF X W e (noE g) := by
  intro H0 F0 ts env F σ H Q R p
  refine h H0 F0 ts env F σ H Q R ?_
  unfold noE at p
  cases q : g env with
  | stuck => rw [q] at p; exact p
  | exc c => rw [q] at p; exact p.elim
  | ok d env1 => rw [q] at p; exact p
theorem DTs.no {e : List Expr} {g : Cs → Out Bool} (h : DTs X W e g) : DTs X W e (noE g) := by
  intro H0 F0 ts env F σ H Q R p
  refine h H0 F0 ts env F σ H Q R ?_
  unfold noE at p
  cases q : g env with
  | stuck => rw [q] at p; exact p
  | exc c => rw [q] at p; exact p.elim
  | ok d env1 => rw [q] at p; exact p
theorem de_lc {elt tg iter : Expr} {ifs : List Expr} {scope : Scope} {own : List (Str × Nat)} {pos : Pos} {sl : List Nat} {gi : Cs → Out (List D)} {t : D → Cs → Option Cs} {gc : Cs → Out Bool} {g : Cs → Out RV} (hc : X.calm = true) (hN : X.N.Nodup) (ok : BlkOk X.N X.env.scope scope own) (hi : DI X W tg iter gi) (hsl : ∀ i ∈ sl, i ∈ own.map (·.2))
    (hg : ∀ (s : Shared) (H : Hp) (C : Addr) (cl : List (Str × Addr)) (fp : List Addr), DG (X.blk s H scope (compEnvC scope cl C X.env) fp) tg sl t)
    (ht : ∀ (s : Shared) (H : Hp) (C : Addr) (cl : List (Str × Addr)) (fp : List Addr), DTs (X.blk s H scope (compEnvC scope cl C X.env) fp) W0 ifs gc)
    (he : ∀ (s : Shared) (H : Hp) (C : Addr) (cl : List (Str × Addr)) (fp : List Addr), DE (X.blk s H scope (compEnvC scope cl C X.env) fp) W0 elt g) (hs : ∀ x, foldedSetIterable iter X.env x = pure x := by intro _; rfl) :
    DE X W (.ListComp elt [⟨tg, iter, ifs, 0⟩] scope pos) (gLc (own.map (·.2)) gi t (noE gc) (noE (gSet g))) := by
  intro H0 F0 ts env F σ H Q R p
  refine PE.sem (pe_lc (own := own) hc hN pi_sem ok (fun s H C cl fp => ?_) (fun s H C cl fp => ?_) (fun s H C cl fp => ?_) hs)
    (lc_ok hi hsl hg (fun s H C cl fp => (ht s H C cl fp).no) (fun s H C cl fp => (he s H C cl fp).df.no) R p fun c ds env1 _ => lcL_exc (noE_exc _) (noE_exc _) ds env1 [] c)
  · exact ⟨fun pins s1 σ H1 v u Q I r h => (h s H C cl fp).out pins s1 u I r⟩
  · exact ⟨fun pins s1 σ H1 Q I h => (h s H C cl fp).out pins s1 I⟩
  · exact ⟨fun pins s1 σ H1 Q I h => (h s H C cl fp).out pins s1 I⟩
/-- y = [..] on one line -/
theorem ds_setLc (i : Nat) {y : Str} {py spos : Pos} {elt tg iter : Expr} {ifs : List Expr} {scope : Scope} {own : List (Str × Nat)} {pos : Pos} {sl : List Nat} {gi : Cs → Out (List D)} {t : D → Cs → Option Cs} {gc : Cs → Out Bool} {g : Cs → Out RV} (hc : X.calm = true) (hN : X.N.Nodup) (hy : X.N[i]? = some y) (hyl : X.env.scope.names.lookup y = some .local)
    (hsw : swapsWith (.ListComp elt [⟨tg, iter, ifs, 0⟩] scope pos) (some (.Name y py)) spos.line X.env = pure true) (ok : BlkOk X.N X.env.scope scope own) (hi : DI X W tg iter gi) (hsl : ∀ i ∈ sl, i ∈ own.map (·.2))
    (hg : ∀ (s : Shared) (H : Hp) (C : Addr) (cl : List (Str × Addr)) (fp : List Addr), DG (X.blk s H scope (compEnvC scope cl C X.env) fp) tg sl t)
    (ht : ∀ (s : Shared) (H : Hp) (C : Addr) (cl : List (Str × Addr)) (fp : List Addr), DTs (X.blk s H scope (compEnvC scope cl C X.env) fp) W0 ifs gc)
    (he : ∀ (s : Shared) (H : Hp) (C : Addr) (cl : List (Str × Addr)) (fp : List Addr), DE (X.blk s H scope (compEnvC scope cl C X.env) fp) W0 elt g) (hs : ∀ x, foldedSetIterable iter X.env x = pure x := by intro _; rfl) :
    DS X W (.Assign [.Name y py] (.ListComp elt [⟨tg, iter, ifs, 0⟩] scope pos) spos) (sSet i (gLc (own.map (·.2)) gi t (noE gc) (noE (gSet g)))) := by
  intro H0 F0 env F σ H D R p
  refine PS.sem (ps_setLc (i := i) (own := own) hc hN hy hyl hsw pi_sem ok (fun s H C cl fp => ?_) (fun s H C cl fp => ?_) (fun s H C cl fp => ?_) hs)
    (lc_ok (W := W) (ts := []) (H0 := H0) (F0 := F0) hi hsl hg (fun s H C cl fp => (ht s H C cl fp).no) (fun s H C cl fp => (he s H C cl fp).df.no) R ?_ fun c ds env1 _ => lcL_exc (noE_exc _) (noE_exc _) ds env1 [] c)
  · exact ⟨fun pins s1 σ H1 v u Q I r h => (h s H C cl fp).out pins s1 u I r⟩
  · exact ⟨fun pins s1 σ H1 Q I h => (h s H C cl fp).out pins s1 I⟩
  · exact ⟨fun pins s1 σ H1 Q I h => (h s H C cl fp).out pins s1 I⟩
  · unfold sSet gNl at p
    cases q : gLc (own.map (·.2)) gi t (noE gc) (noE (gSet g)) env with
    | stuck => rw [q] at p; exact p.elim
    | exc c => rw [q] at p; exact p
    | ok r env1 =>
      rw [q] at p
      intro v F1 H1 R1 h1 s1
      have hr : ∃ d, r = .tmp d := by
        have key : ∀ (ds : List DL.D) (e : Cs) (acc : List DL.D) (r : RV) (e' : Cs), lcL (own.map (·.2)) t (noE gc) (noE (gSet g)) ds e acc = .ok r e' → ∃ d, r = .tmp d := by
          intro ds
          induction ds with
          | nil => intro e acc r e' h; cases h; exact ⟨_, rfl⟩
          | cons d ds ih =>
            intro e acc r e' h
            dsimp only [lcL] at h
            split at h
            · split at h
              · cases h
              · rename_i env1 _
                cases q : noE gc env1 with
                | stuck => rw [q] at h; cases h
                | exc x => rw [q] at h; cases h
                | ok b env2 =>
                  rw [q] at h
                  dsimp only [Out.bind] at h
                  split at h
                  · cases q2 : noE (gSet g) env2 with
                    | stuck => rw [q2] at h; cases h
                    | exc x => rw [q2] at h; cases h
                    | ok x env3 =>
                      rw [q2] at h
                      dsimp only at h
                      split at h
                      · exact ih _ _ _ _ h
                      · cases h
                  · exact ih _ _ _ _ h
            · cases h
        unfold gLc at q
        cases q2 : gi env with
        | stuck => rw [q2] at q; cases q
        | exc c => rw [q2] at q; cases q
        | ok ds e => rw [q2] at q; exact key ds e [] r env1 q
      obtain ⟨d, rfl⟩ := hr
      exact p F1 _ H1 (R1.cell h1 i)
end DL

namespace DL
open PySem PySem.Spec PyProof.Rows L2
variable [TabCtx] {K : PySem.W.Frag} {X : Cx} {W : WN}

/-! ### a op b op c -/
def gCh (f1 f2 : Int → Int → Bool) (ga gb gc : Cs → Out RV) : Cs → Out RV := fun env => (gSet ga env).bind fun a env1 => (gSet gb env1).bind fun b env2 => match a, b with
  | .int i, .int j => if f1 i j = true then (gSet gc env2).bind fun c env3 => match c with
      | .int k => .ok (.frz (.bl (f2 j k))) env3
      | _ => .stuck
    else .ok (.frz (.bl false)) env2
  | _, _ => .stuck
theorem chain_ok {a b c : Expr} {ga gb gc : Cs → Out RV} {f1 f2 : Int → Int → Bool} (ha : DE X W a ga) (hb : DE X W b gb) (hc : DE X W c gc) {H0 F0 : Hp} {ts : List (Addr × D)} {env : Cs} {F : Hp} {σ : L2.St} {H : Hp} {Q : VK} (R : Rs X.K H0 F0 ts env F σ H) (p : PoE X.K W H0 F0 ts F σ Q (gCh f1 f2 ga gb gc env)) :
    tChain (rI0 fun i j => .bl (f1 i j)) (rI0 fun i j => .bl (f2 i j)) (eS X a) (eS X b) (eS X c) σ H Q := by
  refine ha.df H0 F0 ts env F σ H _ R ?_
  unfold gCh at p
  cases q : gSet ga env with
  | stuck => rw [q] at p; exact p.elim
  | exc c => rw [q] at p; exact p
  | ok d env1 =>
    rw [q] at p
    dsimp only [Out.bind] at p
    intro v F1 H1 R1 h1 s1
    refine hb.df H0 F0 ts env1 F1 σ H1 _ R1 ?_
    cases q2 : gSet gb env1 with
    | stuck => rw [q2] at p; exact p.elim
    | exc c => rw [q2] at p; exact p
    | ok e env2 =>
      rw [q2] at p
      dsimp only at p
      intro w F2 H2 R2 h2 s2
      cases d with
      | int i =>
        cases e with
        | int j =>
          cases (show v = .int i from h1)
          cases (show w = .int j from h2)
          dsimp only at p
          refine ⟨i, j, rfl, rfl, f1 i j, rfl, ?_⟩
          by_cases hz : f1 i j = true
          · rw [if_pos hz] at p ⊢
            refine hc.df H0 F0 ts env2 F2 σ H2 _ R2 ?_
            cases q3 : gSet gc env2 with
            | stuck => rw [q3] at p; exact p.elim
            | exc c => rw [q3] at p; exact p
            | ok f env3 =>
              rw [q3] at p
              dsimp only at p
              intro u F3 H3 R3 h3 s3
              cases f with
              | int k =>
                cases (show u = .int k from h3)
                exact ⟨j, k, rfl, rfl, p _ F3 H3 R3 rfl (s1.trans (s2.trans s3))⟩
              | _ => exact p.elim
          · rw [if_neg hz] at p ⊢
            exact p _ F2 H2 R2 rfl (s1.trans s2)
        | _ => exact p.elim
      | _ => exact p.elim
theorem de_chain {op op' : CmpOp} {a b c : Expr} {ga gb gc : Cs → Out RV} {f1 f2 : Int → Int → Bool} {pos : Pos} (ho : OpR X (compareOp op) (rI0 fun i j => .bl (f1 i j))) (ho' : OpR X (compareOp op') (rI0 fun i j => .bl (f2 i j))) (ha : DE X W a ga) (hb : DE X W b gb) (hc : DE X W c gc)
    (hm : lastMarks [op, op'] [b, c] = false) : DE X W (.Compare a [op, op'] [b, c] pos) (gCh f1 f2 ga gb gc) :=
  fun H0 F0 ts env F σ H Q R p => PE.sem (pe_chain ho ho' pe_sem pe_sem pe_sem hm) (chain_ok ha hb hc R p)
theorem dt_chain {op op' : CmpOp} {a b c : Expr} {ga gb gc : Cs → Out RV} {f1 f2 : Int → Int → Bool} {pos : Pos} (ho : OpR X (compareOp op) (rI0 fun i j => .bl (f1 i j))) (ho' : OpR X (compareOp op') (rI0 fun i j => .bl (f2 i j))) (ha : DE X W a ga) (hb : DE X W b gb) (hc : DE X W c gc)
    (hm : lastMarks [op, op'] [b, c] = false) : DT X W (.Compare a [op, op'] [b, c] pos) (gB (gCh f1 f2 ga gb gc)) := by
  intro H0 F0 ts env F σ H Q R p
  refine PT.sem (pt_chain ho ho' pe_sem pe_sem pe_sem hm) (chain_ok (W := W) (f1 := f1) (f2 := f2) (H0 := H0) (F0 := F0) (ts := ts) ha hb hc R ?_)
  unfold gB at p
  cases q : gCh f1 f2 ga gb gc env with
  | stuck => rw [q] at p; exact p.elim
  | exc c => rw [q] at p; exact p
  | ok r1 env1 =>
    rw [q] at p
    intro v F1 H1 R1 h1 s1
    dsimp only [Out.bind] at p
    split at p
    · rename_i b
      exact ⟨b, h1, p F1 H1 R1 s1⟩
    · exact p.elim

/-! ### isinstance -/
def tyN : D → Option String
  | .non => some "NoneType"
  | .bl _ => some "bool"
  | .int _ => some "int"
  | .str _ => some "str"
  | .lst _ => some "list"
  | .tup _ => some "tuple"
  | .dK _ => some "dict"
  | _ => none
def sIsi (T : String) (d : D) : Option Rn := match tyN d with
  | some a => (kitB a T).map fun b => .f (.bl b)
  | none => none
theorem Top.ty {F H : Hp} {d : D} {v : V} {a : String} (s : Same F H) (h : Top K F H d v) (e : tyN d = some a) : TyX K H v (.type a) := by
  cases d with
  | non => cases h.non; cases e; exact .base .non
  | bl b => cases h.bl; cases e; exact .base (.bl b)
  | int b => cases h.int; cases e; exact .base (.int b)
  | str b => cases h.str; cases e; exact .base (.str b)
  | lst xs => obtain ⟨b, vs, rfl, h1, _⟩ := h.lst s; cases e; exact .base (.lst h1)
  | tup xs => obtain ⟨b, vs, rfl, h1, _⟩ := h.tup s; cases e; exact .base (.tup h1)
  | dK es =>
    cases e
    obtain ⟨b, kvs, rfl, h1, _⟩ := h.dK s
    rcases h1 with h1 | ⟨o, h1⟩
    · exact .base (.dK h1)
    · exact .fDict h1
  | _ => cases e
theorem de_isi (T : String) {x y : Str} {a : Expr} {ga : Cs → Out RV} {p0 p1 pos : Pos} (hx : x = "isinstance") (hg : Gl X x) (hm : X.mg x = none) (hgT : Gl X y) (hmT : X.mg y = none) (hv : bootBuiltins x = some (.builtin "isinstance")) (hvT : bootBuiltins y = some (.type T)) (ha : DE X W a ga)
    (hn : x ≠ "__name__" := by decide) (hdb : (x == ("__debug__" : Str)) = false := by decide) (hnT : y ≠ "__name__" := by decide) (hdT : (y == ("__debug__" : Str)) = false := by decide)
    (he : starEach [a, .Name y p1] X.env = (false, eval a X.env) :: starEach [.Name y p1] X.env := by rfl) (he2 : starEach [.Name y p1] X.env = (false, eval (.Name y p1) X.env) :: starEach [] X.env := by rfl)
    (hpl : (backTo pos (starEach [.Name y p1] X.env)).any (·.1) = false := by rfl) : DE X W (.Call (.Name x p0) [a, .Name y p1] [] pos) (g1 (sIsi T) ga) := by
  intro H0 F0 ts env F σ H Q R p
  refine PE.sem (pe_callB (t := tCons (eS X a) (tCons (tC (.ty T)) tNil)) call_isi hg hm hv (pa_cons pe_sem (pa_cons (pe_bltn hgT hmT hvT rfl hnT hdT) pa_nil he2) he) hn hdb he hpl) ?_
  refine one_ok (r := fun v H Q => rIsi X.K [v, .ty T] H Q) (fun F H d v Q s hd p => ?_) ha R p
  unfold sIsi at p
  cases q : tyN d with
  | none => rw [q] at p; exact p.elim
  | some t =>
    rw [q] at p
    dsimp only at p
    cases q2 : kitB t T with
    | none => rw [q2] at p; exact p.elim
    | some b =>
      rw [q2] at p
      exact ⟨v, .ty T, .type t, .type T, b, rfl, .ty T, hd.ty s q, kit_ty q2, PV.f s p rfl⟩

/-! ### slices -/
def cutD (xs : List D) (lo hi : Option Int) : List D := (xs.drop (HT.sIx xs.length 0 lo)).take (HT.sIx xs.length xs.length hi - HT.sIx xs.length 0 lo)
theorem DvL.cut {F : Hp} {xs : List D} {vs : List V} (h : DvL K F xs vs) (lo hi : Option Int) : DvL K F (cutD xs lo hi) (cutV vs lo hi) := by
  unfold cutD cutV
  rw [h.length]
  exact (h.drop _).take _
def DO (X : Cx) (W : WN) (e : Option Expr) (g : Cs → Out (Option Int)) : Prop := ∃ t, PO X e t ∧ ∀ (H0 F0 : Hp) (ts : List (Addr × D)) (env : Cs) (F : Hp) (σ : L2.St) (H : Hp) (Q : Option Int → Hp → Prop), Rs X.K H0 F0 ts env F σ H →
  (match g env with
    | .stuck => False
    | .exc c => ∀ H', Kp H0 H' → W c H'
    | .ok o env1 => ∀ F' H', Rs X.K H0 F0 ts env1 F' σ H' → Same F F' → Q o H') → t σ H Q
def goN : Cs → Out (Option Int) := fun env => .ok none env
def goS (g : Cs → Out RV) : Cs → Out (Option Int) := fun env => (gSet g env).bind fun d env1 => match d with
  | .int i => .ok (some i) env1
  | _ => .stuck
theorem do_none : DO X W none goN := ⟨_, po_none, fun H0 F0 ts env F σ H Q R p => p F H R (.refl _)⟩
theorem do_some {e : Expr} {g : Cs → Out RV} (h : DE X W e g) : DO X W (some e) (goS g) := by
  refine ⟨_, po_some pe_sem, fun H0 F0 ts env F σ H Q R p => h.df H0 F0 ts env F σ H _ R ?_⟩
  unfold goS at p
  cases q : gSet g env with
  | stuck => rw [q] at p; exact p.elim
  | exc c => rw [q] at p; exact p
  | ok d env1 =>
    rw [q] at p
    intro v F1 H1 R1 h1 s1
    cases d with
    | int i => exact ⟨i, h1, p F1 H1 R1 s1⟩
    | _ => exact p.elim
def gSl (g : Cs → Out RV) (gl gh : Cs → Out (Option Int)) : Cs → Out RV := fun env => (g env).bind fun r env1 => (gl env1).bind fun lo env2 => (gh env2).bind fun hi env3 => match valOf env3 r with
  | some (.lst xs) => .ok (.tmp (.lst (cutD xs lo hi))) env3
  | some (.tup xs) => .ok (.frz (.tup (cutD xs lo hi))) env3
  | _ => .stuck
theorem de_slice {e : Expr} {lo hi : Option Expr} {g : Cs → Out RV} {gl gh : Cs → Out (Option Int)} {p2 pos : Pos} (h : DE X W e g) (hl : DO X W lo gl) (hh : DO X W hi gh) : DE X W (.Subscript e (.Slice lo hi none p2) pos) (gSl g gl gh) := by
  obtain ⟨tl, pl, hl⟩ := hl
  obtain ⟨th, ph, hh⟩ := hh
  intro H0 F0 ts env F σ H Q R p
  refine PE.sem (pe_slice (sl_list.or sl_tupA) pe_sem pl ph) (h H0 F0 ts env F σ H _ R ?_)
  unfold gSl at p
  cases q : g env with
  | stuck => rw [q] at p; exact p.elim
  | exc c => rw [q] at p; exact p
  | ok r env1 =>
    rw [q] at p
    dsimp only [Out.bind] at p
    intro v F1 H1 R1 h1 s1
    refine hl H0 F0 _ env1 F1 σ H1 _ R1 ?_
    cases q2 : gl env1 with
    | stuck => rw [q2] at p; exact p.elim
    | exc c => rw [q2] at p; exact p
    | ok lo' env2 =>
      rw [q2] at p
      dsimp only at p
      intro F2 H2 R2 s2
      refine hh H0 F0 _ env2 F2 σ H2 _ R2 ?_
      cases q3 : gh env2 with
      | stuck => rw [q3] at p; exact p.elim
      | exc c => rw [q3] at p; exact p
      | ok hi' env3 =>
        rw [q3] at p
        dsimp only at p
        intro F3 H3 R3 s3
        have s13 := s1.trans (s2.trans s3)
        split at p
        · rename_i xs e
          obtain ⟨a, vs, rfl, h4, t4⟩ := ((h1.mono (s2.trans s3) fun _ m => m).top R3 e).lst R3.fh
          refine .inl ⟨a, vs, rfl, SqL.of h4, fun b hb => ?_⟩
          have x := Ext.tmp (o := .lst (cutV vs lo' hi')) R3.fh hb
          exact p (.ref b) F3 _ (R3.untmp.push x (.of hb) (R3.fh.free hb) ⟨_, upd_same, t4.cut lo' hi'⟩) ⟨b, rfl, List.mem_cons_self⟩ s13
        · rename_i xs e
          have hT := (h1.mono (s2.trans s3) fun _ m => m).top R3 e
          obtain ⟨a, vs, rfl, h4, t4⟩ := hT.tup R3.fh
          refine .inr ⟨a, vs, rfl, SqT.of h4, fun hw => ?_, fun _ b hb => ?_⟩
          · rw [t4.length] at hw
            have ec : cutD xs lo' hi' = xs := by unfold cutD; rw [hw.1, hw.2, List.drop_zero, Nat.sub_zero, List.take_length]
            rw [ec] at p
            refine p _ _ _ (R3.untmp) ?_ s13
            rcases hT with h | ⟨_, _, h⟩
            · exact h
            · exact h.elim
          ·
            have x := Ext.new (o := .tup (cutV vs lo' hi')) R3.fh hb
            exact p (.ref b) _ _ (R3.untmp.ext x) ⟨b, _, rfl, upd_same, (t4.cut lo' hi').mono x.ff⟩ (s13.trans x.ff)
        · exact p.elim
/-- xs[::-1] of a list -/
def sRev : D → Option Rn
  | .lst xs => some (.t (.lst xs.reverse))
  | _ => none
theorem de_rev {e : Expr} {g : Cs → Out RV} {k : Nat} {p1 p2 p3 pos : Pos} (h : DE X W e g) : DE X W (.Subscript e (.Slice none none (some (.UnaryOp .USub (.Constant (.int 1) k p1) p2)) p3) pos) (g1 sRev g) := by
  intro H0 F0 ts env F σ H Q R p
  refine PE.sem (pe_revL pe_sem) (one_ok (r := fun x H1 Q => ∃ a xs, x = .ref a ∧ SqL X.K H1 a xs ∧ ∀ p, H1 p = none → Q (.ref p) (upd H1 p (.lst xs.reverse))) (fun F H d v Q s hd p => ?_) h R p)
  cases d with
  | lst xs =>
    obtain ⟨a, vs, rfl, h1, t1⟩ := hd.lst s
    exact ⟨a, vs, rfl, SqL.of h1, fun b hb => p.newL s t1.rev b hb⟩
  | _ => exact p.elim

/-! ### calls -/
inductive OR where
  | stuck
  | exc (c : Str)
  | ret (r : Rn)
/-- what a def keeps: data in, a datum out, nothing that stood is changed -/
def spD (K : PySem.W.Frag) (ca : Str → Addr) (n : Nat) (f : List D → OR) : Sp := fun vs H Q E => ∃ F ds, (Same F H ∧ NoTb F ∧ TabsH H) ∧ DvL K F ds vs ∧ ds.length = n ∧ (match f ds with
  | .stuck => False
  | .exc c => ∀ H', Kp H H' → E (.ref (ca c)) none H'
  | .ret r => PV K F H Q (some r))
def EW (ca : Str → Addr) (W : WN) : XK := fun cls d H => ∃ c, cls = .ref (ca c) ∧ d = none ∧ W c H
def FnAt (P : Program) (w : World) (K : PySem.W.Frag) (mg : Str → Option Value) (base : Heap) (ca : Str → Addr) (x : Str) (k : Nat) (fs : List D → OR) : Prop :=
  ∃ f fd ps n, FnOk P w K mg base (L2N.CX P w) k f fd ps (spD K ca n fs) ∧ mg x = some (.ref f) ∧ PySem.W.keepIn K (.ref f) = true ∧ Binds K fd ps []
def gCall (fs : List D → OR) (n : Nat) (gs : Cs → Out (List D)) : Cs → Out RV := fun env => (gs env).bind fun ds env1 => if ds.length = n then match fs ds with
    | .stuck => .stuck
    | .exc c => .exc c
    | .ret r => outR env1 (some r)
  else .stuck
def FnN (P : Program) (w : World) (K : PySem.W.Frag) (mg : Str → Option Value) (base : Heap) (ca : Str → Addr) (x : Str) (k n : Nat) (fs : List D → OR) : Prop :=
  ∃ f fd ps, FnOk P w K mg base (L2N.CX P w) k f fd ps (spD K ca n fs) ∧ mg x = some (.ref f) ∧ PySem.W.keepIn K (.ref f) = true ∧ Binds K fd ps []
theorem de_call {ca : Str → Addr} {x : Str} {k n : Nat} {fs : List D → OR} {e : Expr} {es : List Expr} {gs : Cs → Out (List D)} {p0 pos : Pos} (h : FnN X.prog X.w X.K X.mg X.base ca x k n fs) (hr : Room k X.A) (hg : Gl X x) (hx : Passes (L2N.CX X.prog X.w) X (EW ca W)) (ha : DA X W (e :: es) gs)
    (hdb : (x == ("__debug__" : Str)) = false := by decide) (he : starEach (e :: es) X.env = (false, eval e X.env) :: starEach es X.env := by rfl) (hpl : (backTo pos (starEach es X.env)).any (·.1) = false := by rfl) : DE X W (.Call (.Name x p0) (e :: es) [] pos) (gCall fs n gs) := by
  obtain ⟨f, fd, ps, F, hm, hk, hb⟩ := h
  intro H0 F0 ts env F1 σ H Q R p
  refine PE.sem (pe_call F hr hg hm hk hb .nil hx pa_sem hdb he hpl) (ha H0 F0 ts env F1 σ H _ R ?_)
  unfold gCall at p
  cases q : gs env with
  | stuck => rw [q] at p; exact p.elim
  | exc c => rw [q] at p; exact p
  | ok ds env1 =>
    rw [q] at p
    dsimp only [Out.bind] at p
    intro vs F2 H2 R2 h2 s2
    rw [List.append_nil]
    split at p
    · rename_i hn
      refine ⟨F2, ds, ⟨R2.fh, R2.nf, R2.tb⟩, h2, hn, ?_⟩
      cases q2 : fs ds with
      | stuck => rw [q2] at p; exact p.elim
      | exc c => rw [q2] at p; exact fun H' s' => ⟨c, rfl, rfl, p H' (R2.h0.trans s')⟩
      | ret r => rw [q2] at p; exact PV.of R2 s2 p
    · exact p.elim

/-! ### a def by its body -/
def runF (N : Nat) (g : Cs → OS) (ds : List D) : OR := match g (ds.map Cell.frz ++ List.replicate (N - ds.length) .un) with
  | .nx _ => .ret (.f .non)
  | .rt r => .ret r
  | .exc c => .exc c
  | _ => .stuck
theorem start_rs {F H : Hp} {ds : List D} {vs : List V} {n : Nat} {N : List Str} (s : Same F H ∧ NoTb F ∧ TabsH H) (h : DvL K F ds vs) (hn : N.length = n) : Rs K H F [] (ds.map Cell.frz ++ List.replicate (n - ds.length) .un) F (start N vs) H := by
  have hl := h.length
  have cell : ∀ (i : Nat) (c : Cell), (ds.map Cell.frz ++ List.replicate (n - ds.length) .un)[i]? = some c → c = .un ∨ ∃ d, c = .frz d ∧ ds[i]? = some d := fun i c e => by
    by_cases q : i < ds.length
    · rw [List.getElem?_append_left (by simpa using q), List.getElem?_map] at e
      cases z : ds[i]? with
      | none => rw [z] at e; cases e
      | some d => rw [z] at e; cases e; exact .inr ⟨d, rfl, rfl⟩
    · rw [List.getElem?_append_right (by simpa using q), List.getElem?_replicate] at e
      split at e
      · cases e; exact .inl rfl
      · cases e
  refine ⟨s.1, .refl _, s.2.2, s.2.1, .refl _, fun _ h => .inl h, ?_, fun i c e => ?_, fun i j d d' a e1 => ?_, by simp, by simp, fun i d a e1 => ?_⟩
  · unfold L2.start
    rw [List.length_append, List.length_append, List.length_map, List.length_map, List.length_replicate, List.length_replicate, hl, hn]
  · rcases cell i c e with rfl | ⟨d, rfl, z⟩
    · trivial
    · obtain ⟨v, ev, dv⟩ := h.at_ z
      refine ⟨v, ?_, dv⟩
      unfold L2.start
      rw [List.getElem?_append_left (by rw [List.length_map]; exact (List.getElem?_eq_some_iff.mp ev).1), List.getElem?_map, ev]
      rfl
  · rcases cell i _ e1 with z | ⟨_, z, _⟩ <;> cases z
  · rcases cell i _ e1 with z | ⟨_, z, _⟩ <;> cases z
abbrev WE (ca : Str → Addr) (E : XK) : WN := fun c H' => E (.ref (ca c)) none H'
theorem fn_ok {P : Program} {w : World} {K : PySem.W.Frag} {mg : Str → Option Value} {base : Heap} {ca : Str → Addr} {x qual : Str} {params : Arguments} {body : List Stmt} {scope : Scope} {f : Addr} {fd : FuncData} {N ps : List Str} {k : Nat} (Fd : FunD K x qual params body scope [] [] f fd) (S : FnScope N ps scope) (hm : mg x = some (.ref f)) (hb : Binds K fd ps []) (g : Cs → OS)
    (h : ∀ (cdv : Value) (A : Around) (outer : List Env) (s : Shared) (H : Hp) (E : XK), Room k (A.deeper (envOfC qual scope s.heap.objs.size f cdv)) → DB (cxOf (L2N.CX P w) P w K mg base N qual scope f cdv A outer s H E) (WE ca E) body g) :
    FnN P w K mg base ca x (k + 1) ps.length (runF N.length g) := by
  refine ⟨f, fd, ps, Fd.ok S (fun vs H Q E h => ?_) (fun cdv A outer s H vs Q E hr hsp => ?_), hm, Fd.kp, hb⟩
  · obtain ⟨F, ds, _, t, hn, _⟩ := h
    rw [t.length, hn]
  · obtain ⟨F, ds, sF, t, hn, hq⟩ := hsp
    refine ⟨_, pss_sem, h cdv A outer s H E hr H F _ F _ H _ (start_rs sF t rfl) ?_⟩
    unfold runF at hq
    cases q : g (ds.map Cell.frz ++ List.replicate (N.length - ds.length) .un) with
    | stuck => rw [q] at hq; exact hq.elim
    | exc c => rw [q] at hq; exact hq
    | nx env => rw [q] at hq; exact fun F' σ' H' R' => hq .non F' H' R'.ext0 rfl
    | rt r => rw [q] at hq; exact hq
    | bk env => rw [q] at hq; exact hq.elim
    | ct env => rw [q] at hq; exact hq.elim
/-- within a body what a callee lets out goes on -/
theorem pass_body {P : Program} {w : World} {K : PySem.W.Frag} {mg : Str → Option Value} {base : Heap} {ca : Str → Addr} {N : List Str} {qual : Str} {scope : Scope} {f : Addr} {cdv : Value} {A : Around} {outer : List Env} {s : Shared} {H : Hp} {E : XK} :
    Passes (L2N.CX P w) (cxOf (L2N.CX P w) P w K mg base N qual scope f cdv A outer s H E) (EW ca (WE ca E)) :=
  L2N.passes_call (X := cxOf (L2N.CX P w) P w K mg base N qual scope f cdv A outer s H E) (E := EW ca (WE ca E)) (W := fun cls d _ H => E cls d H) (L2N.takes_of rfl rfl rfl rfl) fun cls d σ H ⟨c, e1, e2, h⟩ => by subst e1 e2; exact h
theorem pass_blk {ca : Str → Addr} {X : Cx} : Passes (L2N.CX X.prog X.w) X (EW ca W0) := fun _ _ _ _ _ _ _ h => by
  obtain ⟨_, _, _, _, _, _, _, _, _, _, _, _, c, _, _, z⟩ := h
  exact z.elim
theorem own_body {P : Program} {w : World} {K : PySem.W.Frag} {mg : Str → Option Value} {base : Heap} {N : List Str} {qual : Str} {scope : Scope} {f : Addr} {cdv : Value} {A : Around} {outer : List Env} {s : Shared} {H : Hp} {E : XK} :
    PassesOwn (model P w) (cxOf (L2N.CX P w) P w K mg base N qual scope f cdv A outer s H E).A (cxOf (L2N.CX P w) P w K mg base N qual scope f cdv A outer s H E).env (cxOf (L2N.CX P w) P w K mg base N qual scope f cdv A outer s H E).xe := by
  exact passes_of (X := cxOf (L2N.CX P w) P w K mg base N qual scope f cdv A outer s H E) rfl
theorem FnN.none {P : Program} {w : World} {K : PySem.W.Frag} {mg : Str → Option Value} {base : Heap} {ca : Str → Addr} {x : Str} {k n : Nat} {fs : List D → OR} (h : FnN P w K mg base ca x k n fs) : FnN P w K mg base ca x k n (fun _ => .stuck) := by
  obtain ⟨f, fd, ps, F, r⟩ := h
  exact ⟨f, fd, ps, F.imp (fun vs H Q E ⟨_, _, _, _, _, z⟩ => z.elim), r⟩
theorem FnN.mono {P : Program} {w : World} {K : PySem.W.Frag} {mg : Str → Option Value} {base : Heap} {ca : Str → Addr} {x : Str} {k k' n : Nat} {fs : List D → OR} (h : FnN P w K mg base ca x k n fs) (hk : k ≤ k') : FnN P w K mg base ca x k' n fs := by
  obtain ⟨f, fd, ps, F, r⟩ := h
  exact ⟨f, fd, ps, F.mono hk, r⟩
/-- the promise of nothing -/
theorem FnN.zero {P : Program} {w : World} {K : PySem.W.Frag} {mg : Str → Option Value} {base : Heap} {ca : Str → Addr} {x : Str} {f : Addr} {fd : FuncData} {ps : List Str} (k n : Nat) (hm : mg x = some (.ref f)) (hk : PySem.W.keepIn K (.ref f) = true) (hb : Binds K fd ps []) : FnN P w K mg base ca x k n (fun _ => .stuck) :=
  ⟨f, fd, ps, ⟨fun _ _ _ _ ⟨_, _, _, _, _, z⟩ => z.elim, fun _ _ _ _ _ _ _ _ _ _ _ _ _ ⟨_, _, _, _, _, z⟩ => z.elim⟩, hm, hk, hb⟩
end DL

namespace DL
open PySem PySem.Spec PyProof.Rows L2
theorem bt_len : bootBuiltins "len" = some (.builtin "len") := by decide +kernel
theorem bt_sum : bootBuiltins "sum" = some (.builtin "sum") := by decide +kernel
theorem bt_all : bootBuiltins "all" = some (.builtin "all") := by decide +kernel
theorem bt_max : bootBuiltins "max" = some (.builtin "max") := by decide +kernel
theorem bt_min : bootBuiltins "min" = some (.builtin "min") := by decide +kernel
theorem bt_sorted : bootBuiltins "sorted" = some (.builtin "sorted") := by decide +kernel
theorem bt_isinstance : bootBuiltins "isinstance" = some (.builtin "isinstance") := by decide +kernel
theorem bt_int : bootBuiltins "int" = some (.type "int") := by decide +kernel
theorem bt_bool : bootBuiltins "bool" = some (.type "bool") := by decide +kernel
theorem bt_str : bootBuiltins "str" = some (.type "str") := by decide +kernel
theorem bt_list : bootBuiltins "list" = some (.type "list") := by decide +kernel
theorem bt_tuple : bootBuiltins "tuple" = some (.type "tuple") := by decide +kernel
theorem bt_dict : bootBuiltins "dict" = some (.type "dict") := by decide +kernel
theorem bt_set : bootBuiltins "set" = some (.type "set") := by decide +kernel
end DL

namespace DL
open PySem PySem.Spec PyProof.Rows L2
variable [TabCtx]
variable {K : PySem.W.Frag} {X : Cx} {W : WN}

/-! ### sorted, of data -/
mutual
theorem reads_lt {h : Heap} : ∀ {v : Value} {d : PyData} {as : List Addr}, Reads h v d as → ∀ b ∈ as, b < h.objs.size
  | _, _, _, .none, b, m => by cases m
  | _, _, _, .bool _, b, m => by cases m
  | _, _, _, .int _ _, b, m => by cases m
  | _, _, _, .str _ _, b, m => by cases m
  | _, _, _, .list e _ _ r, b, m => by
    rcases List.mem_cons.mp m with z | z
    · rw [z]; exact Heap.lt_size e
    · exact readsAll_lt r b z
  | _, _, _, .tuple e _ _ r, b, m => readsAll_lt r b m
  | _, _, _, .dict e _ _ r r2, b, m => by
    rcases List.mem_append.mp m with z | z
    · rcases List.mem_cons.mp z with z | z
      · rw [z]; exact Heap.lt_size e
      · exact readsAll_lt r b z
    · exact readsAll_lt r2 b z
theorem readsAll_lt {h : Heap} : ∀ {vs : List Value} {ds : List PyData} {as : List Addr}, ReadsAll h vs ds as → ∀ b ∈ as, b < h.objs.size
  | _, _, _, .nil, b, m => by cases m
  | _, _, _, .cons r t, b, m => by
    rcases List.mem_append.mp m with z | z
    · exact reads_lt r b z
    · exact readsAll_lt t b z
end
/-- the sorted values, by the data that they stand for -/
def sortVP (vs : List V) (ps : List PyData) : List V := ((vs.zip ps).mergeSort (PySem.W.dataLe false (·.2))).map (·.1)
section
variable {pins : List (Addr × Obj)} {σ : L2.St} {H : Hp} {s : Shared}
theorem each_zip : ∀ {vs : List V} {us : List Value} {ps : List PyData}, Vals vs us → vs.length = ps.length → PySem.W.EachIs (fun u (b : V × PyData) => RelV b.1 u) us (vs.zip ps)
  | _, _, _, .nil, _ => by simpa using PySem.W.EachIs.nil
  | _, _, [], .cons _ _, h => by simp at h
  | _, _, p :: ps, .cons r t, h => .cons r (each_zip t (by simpa using h))
theorem each_reads (I : Inv X pins σ H s) : ∀ {vs : List V} {us : List Value} {ps : List PyData}, Vals vs us → DpAll X.K H vs ps → PySem.W.EachIs (fun u (b : V × PyData) => ∃ as, Reads s.heap u b.2 as) us (vs.zip ps)
  | _, _, _, .nil, .nil => .nil
  | _, _, _, .cons r t, .cons d ds => .cons (Dp.reads I _ _ _ d r) (each_reads I t ds)
theorem dpAll_length {H : Hp} : ∀ {vs : List V} {ps : List PyData}, DpAll K H vs ps → vs.length = ps.length
  | _, _, .nil => rfl
  | _, _, .cons _ t => by simp [dpAll_length t]
theorem each_vals : ∀ {us : List Value} {bs : List (V × PyData)}, PySem.W.EachIs (fun u (b : V × PyData) => RelV b.1 u) us bs → Vals (bs.map (·.1)) us
  | _, _, .nil => .nil
  | _, _, .cons r t => .cons r (each_vals t)
theorem sorted_from {u : Value} {G : List V → List PyData → Prop} {Q : VK} {E : Value → Shared → Prop}
    (hcol : ∀ R : List Value → Shared → Prop, (∀ s1 us vs ps, Inv X pins σ H s1 → Vals vs us → G vs ps → R us s1) → wpAny (model X.prog X.w) X.A.in1 (collect u) R E s)
    (hG : ∀ vs ps, G vs ps → DpAll X.K H vs ps ∧ PySem.W.AllAlike ps ∧ PySem.W.Sortable ps ∧ vs.length ≤ sizeLine ∧ (∀ p ∈ ps, X.A.units + 2 + p.depth < cLine) ∧ ∀ p, H p = none → Q (.ref p) (upd H p (.lst (sortVP vs ps)))) : wpAny (model X.prog X.w) X.A (call (.builtin "sorted") [u]) (EP X pins σ Q) E s := by
  refine Calls.call_function_entry PyProof.Rows.kind_sorted PyProof.Rows.plain_sorted PyProof.Rows.entry_sorted (PyProof.Rows.args_sorted1 _) ?_
  unfold Builtin.«sorted»
  refine wpAny_bind (m := checkCount "sorted" 1 1 _) (wpAny_pure ?_)
  refine wpAny_bind (hcol _ fun s1 us vs ps I1 rv hg => ?_)
  obtain ⟨dp, hal, hk, hL, hu, q⟩ := hG vs ps hg
  have hlu : us.length = vs.length := rv.length.symm
  have hlp := dpAll_length dp
  have hzip : (vs.zip ps).map (·.2) = ps := by rw [← List.unzip_snd, List.unzip_zip (by omega)]
  refine wpAny_bind (wpAny_newList ?_ (by rw [hlu]; exact hL))
  have hoL : (s1.heap.push (seqObj "list" us.toArray 0)).get? s1.heap.objs.size = some (seqObj "list" us.toArray 0) := Heap.get?_push_size _ rfl
  have er := each_reads I1 rv dp
  have er' : PySem.W.EachIs (fun v (b : V × PyData) => ∃ as, Reads (s1.heap.push (seqObj "list" us.toArray 0)) v b.2 as ∧ s1.heap.objs.size ∉ as) us (vs.zip ps) :=
    er.mono fun _ _ ⟨as, r⟩ => ⟨as, PyProof.Rows.Reads.keeps (fun _ _ e => Heap.get?_push_of_some _ e) r, fun m => Nat.lt_irrefl _ (reads_lt r _ m)⟩
  refine wpAny_bind (wpAny_holding (PySem.W.list_sort_data (s := { s1 with heap := s1.heap.push (seqObj "list" us.toArray 0) }) (bs := vs.zip ps) (enc := fun b => b.2) (R := fun u (b : V × PyData) => RelV b.1 u) hoL (each_zip rv hlp) er' (by rw [hzip]; exact hal) (by rw [hzip]; exact hk)
    (by rw [List.length_zip]; omega) (fun b hb => ?_) fun out ho eo => ?_))
  · have : b.2 ∈ ps := by rw [← hzip]; exact List.mem_map.mpr ⟨b, hb, rfl⟩
    have := hu _ this
    show X.A.in1.units + 1 + b.2.depth < cLine
    have e1 : X.A.in1.units = X.A.units + 1 := rfl
    omega
  · obtain ⟨c, hc⟩ := PyProof.Rows.sortedHeap_at (vs := us) (out := List.toArray out) hoL
    have hv := each_vals eo
    have hlen : (sortVP vs ps).length ≤ sizeLine := by
      unfold sortVP
      rw [List.length_map, List.length_mergeSort, List.length_zip]
      omega
    refine wpAny_pure ⟨_, rfl, .ref s1.heap.objs.size, upd H s1.heap.objs.size (.lst (sortVP vs ps)), I1.laid (t' := s1.toks) (fun b o e => ?_) (Nat.le_refl _) (show ObjOk X.prog X.w _ _ _ (.lst (sortVP vs ps)) from ⟨hlen, out, c, hv, hc⟩), rfl, q _ (I1.hok.fresh (Nat.le_refl _))⟩
    have hb : b < s1.heap.objs.size := Heap.lt_size e
    rw [PyProof.Rows.sortedHeap_old (Nat.ne_of_lt hb) (by rw [size_push']; exact Nat.lt_succ_of_lt hb)]
    exact Heap.get?_push_of_some _ e
end
/-! what may be sorted -/
def depOk (p : PyData) : Bool := decide (p.depth ≤ 60)
def alikeB (ps : List PyData) : Bool := ps.all fun p => ps.all fun q => PySem.W.alike p q
def isTup1 : PyData → Bool
  | .tuple (_ :: _) => true
  | _ => false
def isPlain : PyData → Bool
  | .none => false
  | .tuple _ => false
  | _ => true
def sortB (ps : List PyData) : Bool := ps.all isTup1 || ps.all isPlain
theorem alikeB_ok {ps : List PyData} (h : alikeB ps = true) : PySem.W.AllAlike ps := fun d hd e he => List.all_eq_true.mp (List.all_eq_true.mp h d hd) e he
theorem sortB_ok {ps : List PyData} (h : sortB ps = true) : PySem.W.Sortable ps := by
  unfold sortB at h
  rw [Bool.or_eq_true] at h
  rcases h with h | h
  · refine .inl fun d hd => ?_
    have q := List.all_eq_true.mp h d hd
    unfold isTup1 at q
    split at q
    · exact ⟨_, _, rfl⟩
    · cases q
  · refine .inr fun d hd => ?_
    have q := List.all_eq_true.mp h d hd
    cases d <;> first | cases q; done | exact ⟨fun z => (nomatch z), fun _ z => (nomatch z)⟩
def canSort (ps : List PyData) : Bool := alikeB ps && sortB ps && ps.all depOk
theorem canSort_ok {ps : List PyData} (h : canSort ps = true) : PySem.W.AllAlike ps ∧ PySem.W.Sortable ps ∧ ∀ p ∈ ps, p.depth ≤ 60 := by
  unfold canSort at h
  rw [Bool.and_eq_true, Bool.and_eq_true] at h
  exact ⟨alikeB_ok h.1.1, sortB_ok h.1.2, fun p hp => of_decide_eq_true (List.all_eq_true.mp h.2 p hp)⟩
def pyD (d : D) : PyData := (py d).getD .none
def sortD (xs : List D) : List D := xs.mergeSort (PySem.W.dataLe false pyD)
theorem pyL_map : ∀ {xs : List D} {ps : List PyData}, pyL xs = some ps → ps = xs.map pyD ∧ ∀ d ∈ xs, py d = some (pyD d)
  | [], _, e => by cases e; exact ⟨rfl, by simp⟩
  | d :: ds, _, e => by
    unfold pyL at e
    cases q : py d with
    | none => rw [q] at e; cases e
    | some p =>
      rw [q] at e
      cases q2 : pyL ds with
      | none => rw [q2] at e; cases e
      | some ps =>
        rw [q2] at e
        cases e
        obtain ⟨h1, h2⟩ := pyL_map q2
        have hp : pyD d = p := by unfold pyD; rw [q]; rfl
        refine ⟨by rw [List.map_cons, hp, ← h1], fun x hx => ?_⟩
        rcases List.mem_cons.mp hx with z | z
        · rw [z, hp]; exact q
        · exact h2 x z
theorem DvL.zipD {F : Hp} : ∀ {bs : List (V × D)}, (∀ b ∈ bs, Dv K F b.2 b.1) → DvL K F (bs.map (·.2)) (bs.map (·.1))
  | [], _ => rfl
  | b :: bs, h => ⟨b.1, _, rfl, h b List.mem_cons_self, DvL.zipD fun c hc => h c (List.mem_cons_of_mem _ hc)⟩
theorem DvL.memZip {F : Hp} : ∀ {xs : List D} {vs : List V}, DvL K F xs vs → ∀ b ∈ vs.zip xs, Dv K F b.2 b.1
  | [], _, h, b, m => by cases h; cases m
  | d :: ds, _, ⟨v, r, e, h, t⟩, b, m => by
    subst e
    rcases List.mem_cons.mp m with z | z
    · rw [z]; exact h
    · exact DvL.memZip t b z
theorem DvL.sort {F : Hp} {xs : List D} {vs : List V} (h : DvL K F xs vs) : DvL K F (sortD xs) (sortVP vs (xs.map pyD)) := by
  have hl := h.length
  have e1 : (vs.zip (xs.map pyD)) = (vs.zip xs).map fun b => (b.1, pyD b.2) := by
    rw [List.zip_map_right]
    rfl
  have e2 : sortVP vs (xs.map pyD) = ((vs.zip xs).mergeSort (PySem.W.dataLe false fun b => pyD b.2)).map (·.1) := by
    unfold sortVP
    rw [e1]
    rw [← PySem.W.sort_maps (r := PySem.W.dataLe false fun b : V × D => pyD b.2) (fun b : V × D => (b.1, pyD b.2)) (fun _ _ _ _ => rfl), List.map_map]
    rfl
  have e3 : sortD xs = ((vs.zip xs).mergeSort (PySem.W.dataLe false fun b => pyD b.2)).map (·.2) := by
    unfold sortD
    rw [PySem.W.sort_maps (r := PySem.W.dataLe false fun b : V × D => pyD b.2) (s := PySem.W.dataLe false pyD) (fun b : V × D => b.2) (fun _ _ _ _ => rfl), List.map_snd_zip (by omega)]
  rw [e2, e3]
  exact DvL.zipD fun b hb => h.memZip b ((List.mergeSort_perm _ _).mem_iff.mp hb)
def srtItems (xs : List D) : Option Rn := match pyL xs with
  | some ps => if canSort ps = true then some (.t (.lst (sortD xs))) else none
  | none => none
/-- a list, a dict's keys -/
def sSorted : D → Option Rn
  | .lst xs => srtItems xs
  | .dK es => srtItems (es.map fun e => kD e.1)
  | _ => none
def rSortedD (K : PySem.W.Frag) : List V → Hp → VK → Prop := fun xs H Q => ∃ (a : Addr) (vs : List V) (ps : List PyData), xs = [V.ref a] ∧ (SqL K H a vs ∨ ∃ kvs, Rd H a (.dK kvs) ∧ vs = kvs.map fun kv => kV kv.1) ∧ DpAll K H vs ps ∧ canSort ps = true ∧ ∀ p, H p = none → Q (.ref p) (upd H p (.lst (sortVP vs ps)))
theorem cr_sortedD (hu : X.A.units + 64 < cLine) (hc : X.calm = true) : CallR X (.builtin "sorted") (rSortedD X.K) := by
  intro pins s σ H xs us Q I r h
  obtain ⟨a, vs, ps, rfl, hq, dp, cs, q⟩ := h
  rw [Vals.ref1 r]
  obtain ⟨h1, h2, h3⟩ := canSort_ok cs
  have hu' : ∀ p ∈ ps, X.A.units + 2 + p.depth < cLine := fun p hp => by have := h3 p hp; omega
  rcases hq with hq | ⟨kvs, hd, rfl⟩
  · obtain ⟨its, rv, pl, hz⟩ := I.list hq
    refine PySem.W.sorted_data (bs := vs.zip ps) (enc := fun b => b.2) (R := fun u (b : V × PyData) => RelV b.1 u) pl.isList (each_zip rv (dpAll_length dp)) (each_reads I rv dp) ?_ ?_ ?_ (fun b hb => ?_) fun out ho eo => ?_
    · rw [← List.unzip_snd, List.unzip_zip (by have := dpAll_length dp; omega)]; exact h1
    · rw [← List.unzip_snd, List.unzip_zip (by have := dpAll_length dp; omega)]; exact h2
    · rw [List.length_zip]; omega
    · have : b.2 ∈ ps := (List.of_mem_zip hb).2
      exact hu' _ this
    · have hv := each_vals eo
      obtain ⟨c, hcc⟩ := PyProof.Rows.sortedAll_at s.heap its (List.toArray out)
      have hlen : (sortVP vs ps).length ≤ sizeLine := by
        unfold sortVP
        rw [List.length_map, List.length_mergeSort, List.length_zip]
        omega
      exact ⟨.ref (s.heap.objs.size + 1), upd H (s.heap.objs.size + 1) (.lst (sortVP vs ps)), I.laid (t' := s.toks) (fun b o e => PyProof.Rows.sortedAll_old e) (Nat.le_succ _) (show ObjOk X.prog X.w _ _ _ (.lst (sortVP vs ps)) from ⟨hlen, out, c, hv, hcc⟩), rfl, q _ (I.hok.fresh (Nat.le_succ _))⟩
  · obtain ⟨z, lo, ws, rel, dd⟩ := dk_rd I.hok hd
    obtain ⟨ep, hat⟩ := dd.dictAt
    refine sorted_from (G := fun vs' ps' => vs' = kvs.map (fun kv => kV kv.1) ∧ ps' = ps) (fun R hR => ?_) fun vs' ps' g => by obtain ⟨rfl, rfl⟩ := g; exact ⟨dp, h1, h2, by rw [List.length_map]; exact z, hu', q⟩
    refine PySem.W.kdu_collect (A := X.A.in1) (PySem.W.kdl_dict (knd := mixKind X.prog X.w) (kvs := ws) (ep := ep) lo) (I.ok.hd hc) hat (by rw [← rel.length]; exact z) fun h' tk acc hk hacc => ?_
    have ek : (kvs.map fun kv => kV kv.1) = ws.map fun p => kV p.1 := by
      have e := congrArg (List.map kV) rel.keys
      rw [List.map_map, List.map_map] at e
      exact e
    exact hR _ _ _ _ (I.kept hk) (by rw [ek]; exact keys_at (by rw [Array.length_toList]; exact hacc.1) fun j v e => hacc.2 j v (by rw [← Array.getElem?_toList]; exact e)) ⟨rfl, rfl⟩
theorem DvK.keysV {F : Hp} : ∀ {es : List (Key × D)} {kvs : List (Key × V)}, DvK K F es kvs → DvL K F (es.map fun e => kD e.1) (kvs.map fun e => kV e.1)
  | [], _, h => by cases h; rfl
  | (k, d) :: es, _, ⟨v, r, e, h, t⟩ => by subst e; exact ⟨_, _, rfl, dv_kD k, DvK.keysV t⟩
theorem v_sorted : V1 K (fun v H Q => rSortedD K [v] H Q) sSorted := by
  intro F H d v Q s hd p
  have key : ∀ (xs : List D) (vs : List V) (a : Addr), v = .ref a → (SqL K H a vs ∨ ∃ kvs, Rd H a (.dK kvs) ∧ vs = kvs.map fun kv => kV kv.1) → DvL K F xs vs → PV K F H Q (srtItems xs) → rSortedD K [v] H Q := by
    intro xs vs a e h1 t1 p
    subst e
    unfold srtItems at p
    cases q : pyL xs with
    | none => rw [q] at p; exact p.elim
    | some ps =>
      rw [q] at p
      dsimp only at p
      split at p
      · rename_i cs
        refine ⟨a, vs, ps, rfl, h1, t1.dp s q, cs, fun b hb => ?_⟩
        have e := (pyL_map q).1
        subst e
        exact PV.newL s p t1.sort b hb
      · exact p.elim
  cases d with
  | lst xs =>
    obtain ⟨a, vs, e1, h1, t1⟩ := hd.lst s
    exact key xs vs a e1 (.inl (SqL.of h1)) t1 p
  | dK es =>
    obtain ⟨a, kvs, e1, h1, t1⟩ := hd.dK s
    exact key _ _ a e1 (.inr ⟨kvs, h1, rfl⟩) t1.keysV p
  | _ => exact p.elim
end DL

namespace DL
open PySem PySem.Spec PyProof.Rows L2
variable [TabCtx]

/-! ### set(a list of ints or texts), walked by sorted -/
def kOf (v : Value) : Key := match v with
  | .int k _ => .inl k
  | .str x _ => .inr x
  | _ => .inl 0
theorem kOf_of {k : Key} {v : Value} (h : keyIs k v = true) : kOf v = k := by
  rcases keyIs_shape h with ⟨i, t, rfl, rfl⟩ | ⟨x, t, rfl, rfl⟩ <;> rfl
theorem scan_of {k : Key} {v : Value} (h : keyIs k v = true) : v.scannable = true := by
  rcases keyIs_shape h with ⟨i, t, rfl, rfl⟩ | ⟨x, t, rfl, rfl⟩ <;> rfl
def GoodK (w : World) (e : Int × Value) : Prop := ∃ k, keyIs k e.2 = true ∧ e.1 = keyH w k
/-- the table of a set of keys: its entries are good, none twice, they are those of ks; it can be walked -/
def TabK (w : World) (es : Array (Int × Value)) (t : SetTable) (ks : List Key) : Prop :=
  (∀ e ∈ es.toList, GoodK w e) ∧ (es.toList.map fun e => kOf e.2).Nodup ∧ (∀ k, (k ∈ es.toList.map fun e => kOf e.2) ↔ k ∈ ks) ∧ es.size < scanBound ∧ t.fits es.size = true ∧ L2.Ris t.place.toList ∧ (w.params.followText "set-order" = true ∨ t.led = true)
def SetW (w : World) (h : Heap) (a : Addr) (ks : List Key) : Prop := ∃ o es ep t, h.get? a = some o ∧ o.ExactSet ∧ o.data = .set es ep t ∧ TabK w es t ks
section
variable {P : Program} {w : World} {A : Around} {E : Value → Shared → Prop} {s : Shared} {a : Addr} {ks : List Key}
theorem goodK_elems {l : List (Int × Value)} (g : ∀ e ∈ l, GoodK w e) : ElemsOf (mixKind P w) l := fun e he => by
  obtain ⟨k, h1, h2⟩ := g e he
  exact ⟨⟨k, h1, h2⟩, scan_of h1⟩
theorem goodK_mem {l : List (Int × Value)} (g : ∀ e ∈ l, GoodK w e) (k : Key) : (k ∈ l.map fun e => kOf e.2) ↔ ∃ e ∈ l, (mixKind P w).is k e.2 = true := by
  rw [List.mem_map]
  constructor
  · rintro ⟨e, he, q⟩
    obtain ⟨k', h1, _⟩ := g e he
    rw [kOf_of h1] at q
    subst q
    exact ⟨e, he, h1⟩
  · rintro ⟨e, he, q⟩
    exact ⟨e, he, kOf_of q⟩
theorem SetW.at_ {h h' : Heap} (R : SetW w h a ks) (k : ∀ o, h.get? a = some o → h'.get? a = some o) : SetW w h' a ks := by
  obtain ⟨o, es, ep, t, ho, r⟩ := R
  exact ⟨o, es, ep, t, k o ho, r⟩
theorem setW_tail {g : Bool → Sem Unit} (hg : ∀ (b : Bool) (z : Shared) (Q' : Unit → Shared → Prop), Q' () z → wpAny (model P w) A (g b) Q' E z) {o : Obj} {es : Array (Int × Value)} {ep : Nat} {t : SetTable}
    (ho : s.heap.get? a = some o) (hex : o.ExactSet) (hd : o.data = .set es ep t) {ee : Array (Int × Value)} {tt : SetTable} {kk : List Key} (T : TabK w ee tt kk) {wd : Bool} {R : Option Bool → Shared → Prop}
    (hR : ∀ h', Heap.SameBut a s.heap h' → SetW w h' a kk → R (some true) { s with heap := h' }) :
    wpAny (model P w) A (do
        storeSet a ee tt
        if (!wd && tt.tooFull) = true then do
            g (relayAll tt ee (SetTable.grown ee.size)).2.2
            storeSet a (relayAll tt ee (SetTable.grown ee.size)).1 (relayAll tt ee (SetTable.grown ee.size)).2.1
            pure (some true)
          else pure (some true)) R E s := by
  obtain ⟨gd, nd, mm, hb, hf, hr, hl⟩ := T
  refine wpAny_bind (wpAny_storeSet_of ho hd ?_ (fits_of_scanBound hb))
  have q1 := L2.store_at (es' := ee) (t' := tt) ho hd
  have b1 := Heap.SameBut.update s.heap a (Obj.putSet ee tt)
  split
  · have pm := relayAll_perm tt ee (SetTable.grown ee.size)
    have f3 := relayAll_fits tt ee (SetTable.grown ee.size)
    have r3 := L2.relayAll_ris tt ee (SetTable.grown ee.size)
    have l3 := L2.relayAll_led tt ee (SetTable.grown ee.size)
    generalize relayAll tt ee (SetTable.grown ee.size) = Z at pm f3 r3 l3 ⊢
    obtain ⟨e2, t3, gave⟩ := Z
    dsimp only at pm f3 r3 l3 ⊢
    have z2 : e2.size = ee.size := by rw [← Array.length_toList, pm.length_eq, Array.length_toList]
    have b2 : e2.size < scanBound := by rw [z2]; exact hb
    refine wpAny_bind (hg _ _ _ (wpAny_bind (wpAny_storeSet_of q1 rfl (wpAny_pure (hR _ (b1.trans (Heap.SameBut.update _ a _)) ?_)) (fits_of_scanBound b2))))
    exact ⟨_, e2, _, t3, L2.store_at (es' := e2) (t' := t3) q1 rfl, hex, rfl, fun e he => gd e (pm.mem_iff.mp he), (pm.map _).nodup_iff.mpr nd, fun k => (pm.map _).mem_iff.trans (mm k), b2, f3, r3, hl.imp id fun z => by rw [l3]; exact z⟩
  · exact wpAny_pure (hR _ b1 ⟨_, ee, _, tt, q1, hex, rfl, gd, nd, mm, hb, hf, hr, hl⟩)
theorem setW_add {k : Key} {v : Value} {Q : Bool → Shared → Prop} (hkey : keyIs k v = true) (R : SetW w s.heap a ks) (room : ks.length + 1 < scanBound)
    (hQ : ∀ b h', Heap.SameBut a s.heap h' → SetW w h' a (ks ++ [k]) → Q b { s with heap := h' }) : wpAny (model P w) A (setAddHashed a v ((mixKind P w).hash k)) Q E s := by
  obtain ⟨o, es, ep, t, ho, hex, hd, gd, nd, mm, hb, hf, hr, hl⟩ := R
  have hsc := scan_of hkey
  have hel : ElemsOf (mixKind P w) es.toList := goodK_elems gd
  have hsize : es.size ≤ ks.length := by
    have := List.Nodup.length_le_of_subset nd (fun x hx => (mm x).1 hx)
    rw [List.length_map, Array.length_toList] at this
    exact this
  unfold setAddHashed setAddHashedIn
  refine wpAny_holding (wpAny_bind (wpAny_setState_of ho hd hf ?_))
  dsimp only
  rw [byScan_of hsc hb hel]
  simp only [↓reduceIte]
  unfold setAddByScan
  refine wpAny_bind (wpAny_bind (wpAny_rule (wpAny_bind (wpAny_setScan_of (knd := mixKind P w) hkey ho hd hf hel ?_))))
  cases hfi : List.findIdx? (fun e => (mixKind P w).is k e.2) es.toList with
  | some j =>
    dsimp only
    obtain ⟨hj, pj, _⟩ := List.findIdx?_eq_some_iff_getElem.mp hfi
    have hk : k ∈ ks := (mm k).1 ((goodK_mem (P := P) gd k).2 ⟨es.toList[j], List.getElem_mem hj, pj⟩)
    exact wpAny_pure (wpAny_pure (hQ _ s.heap (Heap.SameBut.refl a s.heap) ⟨o, es, ep, t, ho, hex, hd, gd, nd, fun i => by
      rw [mm i, List.mem_append, List.mem_singleton]
      exact ⟨.inl, fun z => z.elim id fun e => e ▸ hk⟩, hb, hf, hr, hl⟩))
  | none =>
    dsimp only
    have hnk : k ∉ es.toList.map fun e => kOf e.2 := fun z => by
      obtain ⟨e, he, q⟩ := (goodK_mem (P := P) gd k).1 z
      have c := List.findIdx?_eq_none_iff.mp hfi e he
      rw [q] at c
      cases c
    have hgw : ∀ (b : Bool) {z : Shared} {Q' : Unit → Shared → Prop}, Q' () z → wpAny (model P w) A (match b with | true => rule "set.scan.the-table-gave-way" | false => pure ()) Q' E z :=
      fun b z Q' q => by cases b <;> first | exact wpAny_pure q | exact wpAny_rule q
    have pm := layNew_perm t es ((mixKind P w).hash k) v
    have f1 := layNew_fits t es ((mixKind P w).hash k) v
    have r1 := L2.layNew_ris t es ((mixKind P w).hash k) v hr
    have l1 := L2.layNew_led t es ((mixKind P w).hash k) v
    generalize layNew t es ((mixKind P w).hash k) v = Z at pm f1 r1 l1 ⊢
    obtain ⟨e1, t1, wd, gave⟩ := Z
    dsimp only at pm f1 r1 l1 ⊢
    rw [Array.toList_push] at pm
    have pc : e1.toList.Perm (((mixKind P w).hash k, v) :: es.toList) := pm.trans (List.perm_append_singleton _ _)
    have pk : (e1.toList.map fun e => kOf e.2).Perm (k :: es.toList.map fun e => kOf e.2) := by
      have := pc.map fun e => kOf e.2
      rw [List.map_cons, kOf_of hkey] at this
      exact this
    have T : TabK w e1 t1 (ks ++ [k]) := by
      refine ⟨fun e he => ?_, pk.nodup_iff.mpr (List.nodup_cons.mpr ⟨hnk, nd⟩), fun i => ?_, ?_, f1, r1, hl.imp id fun z => by rw [l1]; exact z⟩
      · rcases List.mem_cons.mp (pc.mem_iff.mp he) with z | z
        · rw [z]; exact ⟨k, hkey, rfl⟩
        · exact gd e z
      · rw [pk.mem_iff, List.mem_cons, mm i, List.mem_append, List.mem_singleton]
        exact Or.comm
      · rw [← Array.length_toList, pc.length_eq, List.length_cons, Array.length_toList]
        omega
    refine wpAny_bind (hgw _ ?_)
    split
    · refine wpAny_bind ?_
      rw [hashByValue_scannable 8 hsc]
      refine wpAny_pure ?_
      obtain ⟨x1, x2, x3, x4, x5, x6, x7⟩ := T
      refine setW_tail (kk := ks ++ [k]) ?_ ho hex hd ⟨x1, x2, x3, x4, ?_, ?_, ?_⟩ ?_
      · intro b z Q' q; cases b <;> first | exact wpAny_pure q | exact wpAny_rule q
      · first | (split <;> first | exact x5 | exact SetTable.fits_plain_off x5) | exact x5
      · first | (split <;> exact x6) | exact x6
      · first | (split <;> exact x7) | exact x7
      · intro h' sb r; dsimp only; exact wpAny_pure (hQ _ h' sb r)
    · refine wpAny_bind (wpAny_pure ?_)
      simp only [↓reduceIte]
      refine setW_tail (kk := ks ++ [k]) ?_ ho hex hd T ?_
      · intro b z Q' q; cases b <;> first | exact wpAny_pure q | exact wpAny_rule q
      · intro h' sb r; dsimp only; exact wpAny_pure (hQ _ h' sb r)
end
/-- the loop that fills it -/
theorem setW_loop {P : Program} {w : World} {A : Around} {R : Result → Shared → Prop} {I : Addr} {fp wr : List Addr} {G : Array GenState → Array GenState → Prop} {n : Nat} {Pv : Nat → Value → Prop} {St : Nat → Shared → Prop} (Wk : WalksS P w A.in1 I fp wr G n Pv St) (S : Addr) (hSf : S ∉ fp)
    (val : Nat → Key) (hval : ∀ i v, Pv i v → keyIs (val i) v = true) (hb : n + 1 < scanBound) :
    ∀ (m i : Nat) (s : Shared), n - i = m → i ≤ n → St i s → SetW w s.heap S ((List.range i).map val) →
      (∀ s', Moved (S :: wr) G s s' → SetW w s'.heap S ((List.range n).map val) → R (.ok (.ret .none)) s') → codeAny (model P w) A (.builtin "set.update.loop" ⟨[.ref S, .ref I], []⟩) R s := by
  have hSw : S ∉ wr := fun h => hSf (Wk.sub _ h)
  have hsub : ∀ b ∈ wr, b ∈ S :: wr := fun b hb => List.mem_cons_of_mem _ hb
  intro m
  induction m with
  | zero =>
    intro i s hm hi hst hS hR
    obtain rfl : i = n := by omega
    refine codeAny_builtin F.entry_set_update_loop ?_
    rw [Around.under_plainId F.plain_set_update_loop _]
    show wpAny _ A.in1 (pyNext (.ref I) >>= _) _ _ s
    refine wpAny_bind (Wk.done s _ _ hst fun s' mv => ?_)
    exact wpAny_pure (hR s' (mv.mono hsub) (hS.at_ fun o e => mv.heap S _ hSw e))
  | succ m ih =>
    intro i s hm hi hst hS hR
    have hlt : i < n := by omega
    refine codeAny_builtin F.entry_set_update_loop ?_
    rw [Around.under_plainId F.plain_set_update_loop _]
    show wpAny _ A.in1 (pyNext (.ref I) >>= _) _ _ s
    refine wpAny_bind (Wk.item i s _ _ hlt hst fun v s' hP hst' mv => ?_)
    have hk := hval i v hP
    have hS' : SetW w s'.heap S ((List.range i).map val) := hS.at_ fun o e => mv.heap S _ hSw e
    show wpAny _ A.in1 (holding [v] (setAdd S v) >>= _) _ _ s'
    refine wpAny_bind (wpAny_holding ?_)
    unfold setAdd
    refine wpAny_holding (wpAny_bind ((mixKind P w).pyHash (k := val i) hk ?_))
    refine setW_add (s := { s' with toks := s'.toks + 1 }) hk hS' (by rw [List.length_map, List.length_range]; omega) fun b h' sb hS2 => ?_
    have e : (List.range i).map val ++ [val i] = (List.range (i + 1)).map val := by rw [List.range_succ, List.map_append, List.map_singleton]
    rw [e] at hS2
    refine wpAny_pure ⟨plainId_quiet F.plain_set_update_loop _, ih (i + 1) _ (by omega) hlt (Wk.frame _ s' _ _ hst' (Nat.le_succ _) fun b hb o e => ?_) hS2 fun s'' m2 hS'' => ?_⟩
    · rw [sb.2 b (fun h : b = S => hSf (by rw [← h]; exact hb))]; exact e
    · refine hR s'' (Moved.trans Wk.gtrans ((mv.mono hsub).then_heap (Nat.le_succ _) fun b o hb e => ?_) m2) hS''
      rw [sb.2 b (fun h : b = S => hb (by rw [h]; exact List.mem_cons_self))]; exact e
end DL

namespace DL
open PySem PySem.Spec PyProof.Rows L2
variable [TabCtx]
abbrev freshSet (w : World) : Obj := { cls := .type "set", dict := none, data := .set #[] 0 (.fresh 0 0 (!w.params.followText "set-order")) }
section
variable {prog : Program} {w : World} {A : Around} {E : Value → Shared → Prop} {s : Shared}
theorem set_new1 (a : Value) {Q₁ : Value → Shared → Prop} (h : Q₁ (.ref s.heap.objs.size) { s with heap := s.heap.push (freshSet w) }) :
    codeAny (model prog w) A (.call (.builtin "set.__new__") ⟨[.type "set", a], []⟩) (wants Q₁ E) s := by
  refine codeAny_of_tree ?_
  show wpAny _ A.in1 (do checkBuiltinCall "set.__new__" ⟨[.type "set", a], []⟩; again (.builtin "set.__new__" ⟨[.type "set", a], []⟩)) _ _ s
  refine wpAny_bind (wpAny_of_eq (PySem.F.newCall_set_1 a) (wpAny_pure ⟨plainId_quiet PySem.F.plain_set_new _, codeAny_builtin PySem.F.entry_set_new ?_⟩))
  rw [Around.under_plainId PySem.F.plain_set_new _]
  unfold Builtin.«set.__new__» Builtin.Frozenset.newClass
  have hsub := sub_set_self
  obtain ⟨hp, g, d, tk, os⟩ := s
  dsimp only
  wp_walk
  refine wpAny_askSetting (wpAny_pure ?_)
  dsimp only
  simp only [newObj]
  refine wpAny_bind (wpAny_alloc (wpAny_pure ?_))
  exact wpAny_pure h
theorem setW_fresh {h : Heap} {w : World} : SetW w (h.push (freshSet w)) h.objs.size [] :=
  ⟨_, #[], 0, _, Heap.get?_push_size _ rfl, ⟨rfl, rfl, rfl⟩, rfl, (fun e he => by simp at he), (by simp), (fun k => by simp), (by decide), (by rfl), List.Pairwise.nil, by
    show _ ∨ (!w.params.followText "set-order") = true
    cases w.params.followText "set-order"
    · exact .inr rfl
    · exact .inl rfl⟩
theorem set_of_list {l : Addr} {items : Array Value} {ks : List Key} {Q : Value → Shared → Prop} (hh : A.handled = none) (hl : s.heap.IsList l items) (hv : Vals (ks.map kV) items.toList) (hb : items.size + 1 < scanBound)
    (h : ∀ (h' : Heap) (tk : Nat), SetW w h' s.heap.objs.size ks → (∀ b o, s.heap.get? b = some o → h'.get? b = some o) → Q (.ref s.heap.objs.size) { s with heap := h', toks := tk }) :
    wpAny (model prog w) A (call (.type "set") [.ref l]) Q E s := by
  have hlen : ks.length = items.size := by
    have := hv.length
    rw [List.length_map, Array.length_toList] at this
    exact this
  obtain ⟨c, tl, hmro⟩ := PySem.F.called_set.mro
  have hmade := PySem.F.called_set.made
  have hsub := PySem.F.called_set.sub
  refine wpAny_call (codeAny_of_tree ?_)
  show wpAny _ _ (callAny (.type "set") _) _ _ _
  refine wpAny_pure ⟨Code.quiet_builtin _ (by decide +kernel), codeAny_builtin PySem.F.entry_type_call ?_⟩
  rw [Around.under_plain (weight_type_call_type "set" [.ref l] []) rfl]
  have h1 := PySem.F.called_set.notType
  have h2 := PySem.F.called_set.canCreate
  have hct := PySem.F.typeCall_set_1 (.ref l)
  repeat (any_goals (first | assumption | wp_step))
  refine codeAny_mono (set_new1 (.ref l) (E := E) (Q₁ := fun obj z => obj = .ref s.heap.objs.size ∧ z = { s with heap := s.heap.push (freshSet w) }) ⟨rfl, rfl⟩) fun r z hr => ?_
  cases r with
  | error e => exact hr
  | ok fl =>
    cases fl with
    | ret obj =>
      obtain ⟨rfl, rfl⟩ := hr
      have hS : (s.heap.push (freshSet w)).get? s.heap.objs.size = some (freshSet w) := Heap.get?_push_size _ rfl
      have hT : Shared.TypeIs { s with heap := s.heap.push (freshSet w) } (.ref s.heap.objs.size) "set" := ⟨_, hS, rfl⟩
      have hli := PySem.F.called_set.init.lookup
      have hbi := PySem.F.called_set.init.bind (.ref s.heap.objs.size)
      repeat (any_goals (first | assumption | wp_step))
      refine codeAny_mono (codeAny_call_builtin (R := wants (fun r z2 => r = .none ∧ ∃ h' tk, z2 = { s with heap := h', toks := tk } ∧ SetW w h' s.heap.objs.size ks ∧ (∀ b o, s.heap.get? b = some o → h'.get? b = some o)) E) PySem.F.called_set.init.plain PySem.F.entry_set_init (check_set_init_1 hT ?_)) fun r2 z2 hr2 => ?_
      · obtain ⟨ol, hol, hcl, nl, hdl⟩ := hl
        obtain ⟨ocls, odict, odata, oslots⟩ := ol
        simp only at hcl hdl
        subst hcl; subst hdl
        have hol' : (s.heap.push (freshSet w)).get? l = some { cls := .type "list", dict := odict, data := .seq items nl, slots := oslots } := Heap.get?_push_of_some _ hol
        have hsls := PySem.F.sub_list_set
        have hslf := PySem.F.sub_list_frozenset
        have hne : (Value.type "list" == Value.type "dict") = false := by decide
        have hl1 : (s.heap.push (freshSet w)).IsList l items := ⟨_, hol', rfl, nl, rfl⟩
        unfold Builtin.«set.__init__» noKeywords Builtin.Frozenset.updateFrom
        generalize hPI : pyIter = PI
        wp_walk
        subst hPI
        refine wpAny_pyIter_list hl1 (wpAny_bind (wpAny_runValue ?_))
        have hlS : l < s.heap.objs.size := Heap.lt_size hol
        have hh3 : A.in1.in1.in1.handled = none := by simp [hh]
        have hneI : l ≠ (s.heap.push (freshSet w)).objs.size := by rw [Heap.size_push]; exact Nat.ne_of_lt (Nat.lt_succ_of_lt hlS)
        have hSf : s.heap.objs.size ∉ [(s.heap.push (freshSet w)).objs.size, l] := by
          rw [Heap.size_push]; simp only [List.mem_cons, List.mem_singleton, List.not_mem_nil, or_false, not_or]
          exact ⟨Nat.ne_of_lt (Nat.lt_succ_self _), Nat.ne_of_gt hlS⟩
        have hval : ∀ (i : Nat) (v : Value), items[i]? = some v → keyIs ((fun i => ks.getD i (.inl 0)) i) v = true := fun i v e => by
          have hi : i < ks.length := by rw [hlen]; exact (Array.getElem?_eq_some_iff.mp e).1
          obtain ⟨u, e2, r⟩ := hv.get (i := i) (x := kV ks[i]) (by rw [List.getElem?_map, List.getElem?_eq_getElem hi]; rfl)
          rw [Array.getElem?_toList, e] at e2
          cases e2
          dsimp only
          rw [List.getD_eq_getElem?_getD, List.getElem?_eq_getElem hi]
          exact kV_is (P := prog) (w := w) r
        have hend : (List.range items.size).map (fun i => ks.getD i (.inl 0)) = ks := by
          apply List.ext_getElem?
          intro j
          by_cases hj : j < ks.length
          · rw [List.getElem?_map, List.getElem?_range (by omega), Option.map_some, List.getD_eq_getElem?_getD, List.getElem?_eq_getElem hj]; rfl
          · rw [List.getElem?_eq_none (by rw [List.length_map, List.length_range]; omega), List.getElem?_eq_none (by omega)]
        refine setW_loop (n := items.size) ((Walks.list hh3 _ l hneI items).toS) s.heap.objs.size hSf (fun i => ks.getD i (.inl 0)) hval hb (items.size - 0) 0 _ (by omega) (Nat.zero_le _) ⟨⟨_, Heap.get?_push_size _ rfl, rfl, rfl⟩, (hl1.push _)⟩ ?hS0 ?hR
        case hS0 => exact setW_fresh.at_ fun o e => Heap.get?_push_of_some _ e
        case hR =>
          intro s' hm hS'
          rw [hend] at hS'
          obtain ⟨h', g', d', tk', os'⟩ := s'
          have eg : g' = s.gens := hm.gens
          have ed : d' = s.drawn := hm.drawn
          have eo : os' = s.os := hm.os
          subst eg; subst ed; subst eo
          show wpAny _ _ _ _ _ _
          refine wpAny_pure ?_
          show wpAny _ _ (ret Value.none) _ _ _
          refine wpAny_pure ⟨rfl, h', tk', rfl, hS', fun b o e => ?_⟩
          have hb := Heap.lt_size e
          have hb2 : b ≠ (s.heap.push (freshSet w)).objs.size := by rw [Heap.size_push]; exact Nat.ne_of_lt (Nat.lt_succ_of_lt hb)
          exact hm.heap b o (by simp only [List.mem_cons, List.mem_singleton, List.not_mem_nil, or_false, not_or]; exact ⟨Nat.ne_of_lt hb, hb2⟩) (Heap.get?_push_of_some _ (Heap.get?_push_of_some _ e))
      · cases r2 with
        | error e => exact hr2
        | ok fl2 =>
          cases fl2 with
          | ret r =>
            obtain ⟨rfl, h', tk, rfl, hS', hk'⟩ := hr2
            repeat (any_goals (first | assumption | wp_step))
            exact h _ _ hS' hk'
          | _ => exact hr2.elim
    | _ => exact hr.elim
end
end DL

namespace DL
open PySem PySem.Spec PyProof.Rows L2
variable [TabCtx]
variable {K : PySem.W.Frag} {X : Cx} {W : WN}
/-! ### sorted(set(xs)) -/
def nub {α : Type} [DecidableEq α] : List α → List α
  | [] => []
  | x :: xs => if x ∈ xs then nub xs else x :: nub xs
theorem mem_nub {α : Type} [DecidableEq α] {x : α} : ∀ {xs : List α}, x ∈ nub xs ↔ x ∈ xs
  | [] => Iff.rfl
  | y :: ys => by
    unfold nub
    split
    · rename_i h
      rw [mem_nub, List.mem_cons]
      exact ⟨.inr, fun z => z.elim (fun e => e ▸ h) id⟩
    · rw [List.mem_cons, List.mem_cons, mem_nub]
theorem nodup_nub {α : Type} [DecidableEq α] : ∀ (xs : List α), (nub xs).Nodup
  | [] => List.nodup_nil
  | y :: ys => by
    unfold nub
    split
    · exact nodup_nub ys
    · rename_i h
      exact List.nodup_cons.mpr ⟨fun m => h (mem_nub.mp m), nodup_nub ys⟩
theorem perm_of_mem {α : Type} [DecidableEq α] {l m : List α} (hl : l.Nodup) (hm : m.Nodup) (h : ∀ x, x ∈ l ↔ x ∈ m) : l.Perm m := by
  apply (List.perm_iff_count).mpr
  intro x
  rw [List.Nodup.count hl, List.Nodup.count hm]
  simp [h x]
/-- the ints of a list, rising, each once -/
def sortI (ns : List Int) : List Int := (nub ns).mergeSort fun a b => decide (a ≤ b)
/-- the texts of a list, rising, each once -/
def sortT (ss : List Str) : List Str := (nub ss).mergeSort fun a b => decide (a.cps.toList ≤ b.cps.toList)
theorem sortInt_perm {l m : List Int} (h : l.Perm m) : (l.mergeSort fun a b => decide (a ≤ b)) = m.mergeSort fun a b => decide (a ≤ b) := by
  have tr : ∀ a b c : Int, decide (a ≤ b) = true → decide (b ≤ c) = true → decide (a ≤ c) = true := fun a b c h1 h2 => by simp only [decide_eq_true_eq] at *; omega
  have to : ∀ a b : Int, (decide (a ≤ b) || decide (b ≤ a)) = true := fun a b => by simp only [Bool.or_eq_true, decide_eq_true_eq]; omega
  refine List.Perm.eq_of_pairwise (le := fun a b => decide (a ≤ b) = true) (fun a b _ _ h1 h2 => by simp only [decide_eq_true_eq] at *; omega) (List.pairwise_mergeSort tr to l) (List.pairwise_mergeSort tr to m) ?_
  exact (List.mergeSort_perm l _).trans (h.trans (List.mergeSort_perm m _).symm)
theorem str_ext {a b : Str} (h : a.cps.toList = b.cps.toList) : a = b := by
  obtain ⟨a⟩ := a
  obtain ⟨b⟩ := b
  exact congrArg Str.mk (Array.toList_inj.mp h)
theorem sortTxt_perm {l m : List Str} (h : l.Perm m) : (l.mergeSort fun a b => decide (a.cps.toList ≤ b.cps.toList)) = m.mergeSort fun a b => decide (a.cps.toList ≤ b.cps.toList) := by
  have tr : ∀ a b c : Str, decide (a.cps.toList ≤ b.cps.toList) = true → decide (b.cps.toList ≤ c.cps.toList) = true → decide (a.cps.toList ≤ c.cps.toList) = true := fun a b c h1 h2 => by
    simp only [decide_eq_true_eq] at *; exact List.le_trans h1 h2
  have to : ∀ a b : Str, (decide (a.cps.toList ≤ b.cps.toList) || decide (b.cps.toList ≤ a.cps.toList)) = true := fun a b => by
    simp only [Bool.or_eq_true, decide_eq_true_eq]; exact List.le_total _ _
  refine List.Perm.eq_of_pairwise (le := fun a b : Str => decide (a.cps.toList ≤ b.cps.toList) = true) (fun a b _ _ h1 h2 => by simp only [decide_eq_true_eq] at *; exact str_ext (List.le_antisymm h1 h2)) (List.pairwise_mergeSort tr to l) (List.pairwise_mergeSort tr to m) ?_
  exact (List.mergeSort_perm l _).trans (h.trans (List.mergeSort_perm m _).symm)
def SetH (w : World) (a : Addr) (ks : List Key) : HO := .ext fun h => SetW w h a ks
theorem setH_ok {P : Program} {w : World} {H : Hp} {h : Heap} {a : Addr} {ks : List Key} (R : SetW w h a ks) : ObjOk P w H h a (SetH w a ks) := by
  obtain ⟨o, es, ep, t, ho, r⟩ := id R
  exact ⟨R, ⟨o, ho⟩, fun h1 h2 p k => p.at_ k⟩
theorem cr_setL (hc : X.calm = true) : CallR X (.type "set") (fun xs H Q => ∃ a ks, xs = [V.ref a] ∧ SqL X.K H a (ks.map kV) ∧ ks.length + 1 < 4096 ∧ ∀ p, H p = none → Q (.ref p) (upd H p (SetH X.w p ks))) := by
  intro pins s σ H xs us Q I r h
  obtain ⟨a, ks, rfl, hq, hz, q⟩ := h
  rw [Vals.ref1 r]
  obtain ⟨its, rv, pl, _⟩ := I.list hq
  have hl := rv.length
  rw [List.length_map] at hl
  refine set_of_list (ks := ks) (I.ok.hd hc) pl.isList (by simpa using rv) (by rw [List.size_toArray]; show its.length + 1 < 4096; omega) fun h' tk R k => ?_
  exact ⟨.ref s.heap.objs.size, upd H s.heap.objs.size (SetH X.w s.heap.objs.size ks), I.laid (t' := tk) k (Nat.le_refl _) (setH_ok R), rfl, q _ (I.hok.fresh (Nat.le_refl _))⟩
theorem nodup_map_inj {α β : Type} {f : α → β} (hf : ∀ a b, f a = f b → a = b) : ∀ {l : List α}, (l.map f).Nodup → l.Nodup
  | [], _ => List.nodup_nil
  | x :: l, h => by
    rw [List.map_cons, List.nodup_cons] at h
    exact List.nodup_cons.mpr ⟨fun m => h.1 (List.mem_map.mpr ⟨x, m, rfl⟩), nodup_map_inj hf h.2⟩
theorem nodup_map {α β : Type} {f : α → β} (hf : ∀ a b, f a = f b → a = b) : ∀ {l : List α}, l.Nodup → (l.map f).Nodup
  | [], _ => List.nodup_nil
  | x :: l, h => by
    rw [List.nodup_cons] at h
    rw [List.map_cons]
    refine List.nodup_cons.mpr ⟨fun m => ?_, nodup_map hf h.2⟩
    obtain ⟨y, hy, e⟩ := List.mem_map.mp m
    exact h.1 (hf _ _ e ▸ hy)
theorem dp_strs {H : Hp} : ∀ ns : List Str, DpAll K H (ns.map V.str) (ns.map PyData.str)
  | [] => .nil
  | n :: ns => .cons (.str n) (dp_strs ns)
/-- sorted of a set of keys: by the sort of the keys as data -/
theorem cr_sortW (hu : X.A.units + 64 < cLine) (hc : X.calm = true) : CallR X (.builtin "sorted") (fun xs H Q => ∃ a ks, xs = [V.ref a] ∧ H a = some (SetH X.w a ks) ∧ ((∃ ns : List Int, ks = ns.map Sum.inl ∧ ∀ p, H p = none → Q (.ref p) (upd H p (.lst ((sortI ns).map V.int)))) ∨
    ∃ ss : List Str, ks = ss.map Sum.inr ∧ ∀ p, H p = none → Q (.ref p) (upd H p (.lst ((sortT ss).map V.str))))) := by
  intro pins s σ H xs us Q I r h
  obtain ⟨a, ks, rfl, ha, q⟩ := h
  rw [Vals.ref1 r]
  obtain ⟨⟨o, es, ep, t, ho, hex, hd, gd, nd, mm, hb, hf, hr, hl⟩, _⟩ := I.hok a _ ha
  -- the walk over the set, by keys
  have coll : ∀ (α : Type) (f : α → Key) (kinj : ∀ a b, f a = f b → a = b) (xs : List α), ks = xs.map f → ∀ (R : List Value → Shared → Prop),
      (∀ s1 us (ys : List α), Inv X pins σ H s1 → Vals (ys.map fun y => kV (f y)) us → ys.Nodup → (∀ y, y ∈ ys ↔ y ∈ xs) → R us s1) → wpAny (model X.prog X.w) X.A.in1 (collect (.ref a)) R X.xe s := by
    intro α f kinj xs hks R hR
    refine L2.collect_set (A := X.A.in1) (I.ok.hd hc) ⟨o, ho, hex.1, hd⟩ hf hb hr hl fun s1 out k1 hz g1 o1 pm => ?_
    have I1 : Inv X pins σ H s1 := I.call' (ch := []) o1 (Un.kept k1) (I.hok.kept k1) (by rw [g1]; exact I.bare) (fun _ z => nomatch z)
    have pk : (out.map kOf).Perm (es.toList.map fun e => kOf e.2) := by
      have := pm.map kOf
      rw [List.map_map] at this
      exact this
    have isk : ∀ v ∈ out, ∃ y, y ∈ xs ∧ keyIs (f y) v = true := fun v hv => by
      obtain ⟨e, he, rfl⟩ := List.mem_map.mp (pm.mem_iff.mp hv)
      obtain ⟨k, h1, _⟩ := gd e he
      have : k ∈ ks := (mm k).1 (List.mem_map.mpr ⟨e, he, kOf_of h1⟩)
      rw [hks] at this
      obtain ⟨y, hy, rfl⟩ := List.mem_map.mp this
      exact ⟨y, hy, h1⟩
    have build : ∀ out : List Value, (∀ v ∈ out, ∃ y, y ∈ xs ∧ keyIs (f y) v = true) → ∃ ys : List α, Vals (ys.map fun y => kV (f y)) out ∧ ys.map f = out.map kOf ∧ ∀ y ∈ ys, y ∈ xs := by
      intro out
      induction out with
      | nil => intro _; exact ⟨[], .nil, rfl, by simp⟩
      | cons v out ih =>
        intro h
        obtain ⟨y, hy, hk⟩ := h v List.mem_cons_self
        obtain ⟨ys, h1, h2, h3⟩ := ih fun u hu => h u (List.mem_cons_of_mem _ hu)
        refine ⟨y :: ys, .cons (relV_key hk) h1, by rw [List.map_cons, List.map_cons, kOf_of hk, h2], fun z hz => ?_⟩
        rcases List.mem_cons.mp hz with e | e
        · rw [e]; exact hy
        · exact h3 z e
    obtain ⟨ys, h1, h2, h3⟩ := build out isk
    have nd2 : (ys.map f).Nodup := by rw [h2]; exact pk.nodup_iff.mpr nd
    refine hR s1 out ys I1 h1 (nodup_map_inj kinj nd2) fun y => ⟨h3 y, fun hy => ?_⟩
    have : f y ∈ ks := by rw [hks]; exact List.mem_map.mpr ⟨y, hy, rfl⟩
    have m := (mm _).2 this
    rw [← pk.mem_iff, ← h2] at m
    obtain ⟨z, hz, e⟩ := List.mem_map.mp m
    rw [← kinj _ _ e]; exact hz
  rcases q with ⟨ns, hks, q⟩ | ⟨ss, hks, q⟩
  · refine sorted_from (H := H) (G := fun vs ps => ∃ ys : List Int, vs = ys.map V.int ∧ ps = ys.map PyData.int ∧ ys.Nodup ∧ ∀ y, y ∈ ys ↔ y ∈ ns) (fun R hR => ?_) ?_
    · exact coll Int (fun n => .inl n) (fun _ _ e => Sum.inl.inj e) ns hks R fun s1 us ys I1 rv hn hm => hR s1 us (ys.map V.int) (ys.map PyData.int) I1 rv ⟨ys, rfl, rfl, hn, hm⟩
    · rintro vs ps ⟨ys, rfl, rfl, hn, hm⟩
      have hlen : ys.length ≤ ns.length := List.Nodup.length_le_of_subset hn fun y hy => (hm y).1 hy
      have hbound : es.size ≤ sizeLine := fits_of_scanBound hb
      refine ⟨dp_ints ys, PySem.W.AllAlike.of (fun _ _ => rfl), PySem.W.Sortable.others (fun _ => ⟨fun z => (nomatch z), fun _ z => (nomatch z)⟩), ?_, fun p hp => ?_, fun p hp => ?_⟩
      · rw [List.length_map]
        have : ys.length ≤ es.size := by
          rw [← Array.length_toList, ← List.length_map (f := fun e : Int × Value => kOf e.2)]
          have h := List.Nodup.length_le_of_subset (l₁ := ys.map Sum.inl) (l₂ := es.toList.map fun e => kOf e.2) (nodup_map (fun _ _ e => Sum.inl.inj e) hn) fun k hk => by
            obtain ⟨y, hy, rfl⟩ := List.mem_map.mp hk
            exact (mm _).2 (by rw [hks]; exact List.mem_map.mpr ⟨y, (hm y).1 hy, rfl⟩)
          rw [List.length_map] at h
          exact h
        omega
      · obtain ⟨y, _, rfl⟩ := List.mem_map.mp hp
        show X.A.units + 2 + 0 < cLine
        omega
      · have e : sortVP (ys.map V.int) (ys.map PyData.int) = (sortI ns).map V.int := by
          unfold sortVP sortI
          rw [List.zip_map', ← PySem.W.sort_maps (r := fun a b : Int => decide (a ≤ b)) (fun y : Int => (V.int y, PyData.int y)) (fun a _ b _ => by rw [← congrFun (congrFun (PySem.W.dataLe_int (fun y : Int => y)) a) b]; rfl), List.map_map, sortInt_perm (perm_of_mem hn (nodup_nub ns) fun y => (hm y).trans mem_nub.symm)]
          rfl
        rw [e]
        exact q p hp
  · refine sorted_from (H := H) (G := fun vs ps => ∃ ys : List Str, vs = ys.map V.str ∧ ps = ys.map PyData.str ∧ ys.Nodup ∧ ∀ y, y ∈ ys ↔ y ∈ ss) (fun R hR => ?_) ?_
    · exact coll Str (fun n => .inr n) (fun _ _ e => Sum.inr.inj e) ss hks R fun s1 us ys I1 rv hn hm => hR s1 us (ys.map V.str) (ys.map PyData.str) I1 rv ⟨ys, rfl, rfl, hn, hm⟩
    · rintro vs ps ⟨ys, rfl, rfl, hn, hm⟩
      have hbound : es.size ≤ sizeLine := fits_of_scanBound hb
      refine ⟨dp_strs ys, PySem.W.AllAlike.of (fun _ _ => rfl), PySem.W.Sortable.others (fun _ => ⟨fun z => (nomatch z), fun _ z => (nomatch z)⟩), ?_, fun p hp => ?_, fun p hp => ?_⟩
      · rw [List.length_map]
        have : ys.length ≤ es.size := by
          rw [← Array.length_toList, ← List.length_map (f := fun e : Int × Value => kOf e.2)]
          have h := List.Nodup.length_le_of_subset (l₁ := ys.map Sum.inr) (l₂ := es.toList.map fun e => kOf e.2) (nodup_map (fun _ _ e => Sum.inr.inj e) hn) fun k hk => by
            obtain ⟨y, hy, rfl⟩ := List.mem_map.mp hk
            exact (mm _).2 (by rw [hks]; exact List.mem_map.mpr ⟨y, (hm y).1 hy, rfl⟩)
          rw [List.length_map] at h
          exact h
        omega
      · obtain ⟨y, _, rfl⟩ := List.mem_map.mp hp
        show X.A.units + 2 + 0 < cLine
        omega
      · have e : sortVP (ys.map V.str) (ys.map PyData.str) = (sortT ss).map V.str := by
          unfold sortVP sortT
          rw [List.zip_map', ← PySem.W.sort_maps (r := fun a b : Str => decide (a.cps.toList ≤ b.cps.toList)) (fun y : Str => (V.str y, PyData.str y)) (fun a _ b _ => by rw [← congrFun (congrFun (PySem.W.dataLe_str (fun y : Str => y)) a) b]; rfl), List.map_map, sortTxt_perm (perm_of_mem hn (nodup_nub ss) fun y => (hm y).trans mem_nub.symm)]
          rfl
        rw [e]
        exact q p hp
def asStrs : List D → Option (List Str)
  | [] => some []
  | .str i :: r => (asStrs r).map (i :: ·)
  | _ => none
theorem asStrs_map : ∀ (ns : List Str), asStrs (ns.map D.str) = some ns
  | [] => rfl
  | n :: ns => by simp [asStrs, asStrs_map ns]
theorem asStrs_eq : ∀ {ds : List D} {ns : List Str}, asStrs ds = some ns → ds = ns.map D.str
  | [], _, h => by cases h; rfl
  | .str i :: r, ns, h => by
    unfold asStrs at h
    cases q : asStrs r with
    | none => rw [q] at h; cases h
    | some m => rw [q] at h; cases h; rw [asStrs_eq q]; rfl
  | .non :: _, _, h => by cases h
  | .bl _ :: _, _, h => by cases h
  | .int _ :: _, _, h => by cases h
  | .lst _ :: _, _, h => by cases h
  | .tup _ :: _, _, h => by cases h
  | .dK _ :: _, _, h => by cases h
  | .dT _ :: _, _, h => by cases h
  | .scr _ :: _, _, h => by cases h
  | .adr _ :: _, _, h => by cases h
theorem DvL.strs {F : Hp} : ∀ {ns : List Str} {vs : List V}, DvL K F (ns.map D.str) vs → vs = ns.map V.str
  | [], _, h => h
  | n :: ns, _, ⟨v, r, e, h, t⟩ => by subst e; cases h; rw [DvL.strs t, List.map_cons]
theorem DvL.of_strs {F : Hp} : ∀ {ns : List Str}, DvL K F (ns.map D.str) (ns.map V.str)
  | [] => rfl
  | n :: ns => ⟨_, _, rfl, rfl, DvL.of_strs⟩
def sSortSet : D → Option Rn
  | .lst xs => if xs.length + 1 < 4096 then match asInts xs with
      | some ns => some (.t (.lst ((sortI ns).map .int)))
      | none => match asStrs xs with
        | some ss => some (.t (.lst ((sortT ss).map .str)))
        | none => none
    else none
  | _ => none
theorem de_sortSet {a : Expr} {ga : Cs → Out RV} {p0 p1 pos pos1 : Pos} (hc : X.calm = true) (hg : Gl X "sorted") (hgs : Gl X "set") (hu : X.A.units + 64 < cLine) (hm : X.mg "sorted" = none) (hms : X.mg "set" = none) (ha : DE X W a ga)
    (he : starEach [a] X.env = (false, eval a X.env) :: starEach [] X.env := by rfl) (he2 : starEach [.Call (.Name "set" p1) [a] [] pos1] X.env = (false, eval (.Call (.Name "set" p1) [a] [] pos1) X.env) :: starEach [] X.env := by rfl) :
    DE X W (.Call (.Name "sorted" p0) [.Call (.Name "set" p1) [a] [] pos1] [] pos) (g1 sSortSet ga) := by
  intro H0 F0 ts env F σ H Q R p
  refine PE.sem (pe_callB (cr_sortW hu hc) hg hm bt_sorted (pa_cons (pe_callTy (t := tCons (eS X a) tNil) (cr_setL hc) hgs hms bt_set (pa_cons pe_sem pa_nil he) (by decide) (by decide) he) pa_nil he2) (by decide) (by decide) he2) ?_
  refine one_ok (r := fun v H1 Q => ∃ b ks, [v] = [V.ref b] ∧ SqL X.K H1 b (ks.map kV) ∧ ks.length + 1 < 4096 ∧ ∀ p, H1 p = none → ∃ a' ks', [V.ref p] = [V.ref a'] ∧ (upd H1 p (SetH X.w p ks)) a' = some (SetH X.w a' ks') ∧ ((∃ ns : List Int, ks' = ns.map Sum.inl ∧ ∀ p2, (upd H1 p (SetH X.w p ks)) p2 = none → Q (.ref p2) (upd (upd H1 p (SetH X.w p ks)) p2 (.lst ((sortI ns).map V.int)))) ∨
    ∃ ss : List Str, ks' = ss.map Sum.inr ∧ ∀ p2, (upd H1 p (SetH X.w p ks)) p2 = none → Q (.ref p2) (upd (upd H1 p (SetH X.w p ks)) p2 (.lst ((sortT ss).map V.str))))) (fun F H d v Q s hd p => ?_) ha R p
  cases d with
  | lst xs =>
    obtain ⟨b, vs, rfl, h1, t1⟩ := hd.lst s
    dsimp only [sSortSet] at p
    split at p
    · rename_i hz
      cases q1 : asInts xs with
      | some ns =>
        rw [q1] at p
        have e := asInts_eq q1
        subst e
        rw [t1.ints] at h1
        refine ⟨b, ns.map Sum.inl, rfl, SqL.of (by rw [List.map_map]; exact h1), by rw [List.length_map] at hz ⊢; exact hz, fun c hc => ⟨c, _, rfl, upd_same, .inl ⟨ns, rfl, fun c2 hc2 => ?_⟩⟩⟩
        have x1 := Ext.tmp (o := SetH X.w c (ns.map Sum.inl)) s hc
        have x2 := Ext.tmp (o := .lst ((sortI ns).map V.int)) x1.fh hc2
        exact p c2 F _ (x1.trans x2) (x1.hh.nt (.of hc2)) (x1.fh.free hc2) ⟨_, upd_same, DvL.of_ints⟩
      | none =>
        rw [q1] at p
        dsimp only at p
        cases q2 : asStrs xs with
        | some ss =>
          rw [q2] at p
          have e := asStrs_eq q2
          subst e
          rw [t1.strs] at h1
          refine ⟨b, ss.map Sum.inr, rfl, SqL.of (by rw [List.map_map]; exact h1), by rw [List.length_map] at hz ⊢; exact hz, fun c hc => ⟨c, _, rfl, upd_same, .inr ⟨ss, rfl, fun c2 hc2 => ?_⟩⟩⟩
          have x1 := Ext.tmp (o := SetH X.w c (ss.map Sum.inr)) s hc
          have x2 := Ext.tmp (o := .lst ((sortT ss).map V.str)) x1.fh hc2
          exact p c2 F _ (x1.trans x2) (x1.hh.nt (.of hc2)) (x1.fh.free hc2) ⟨_, upd_same, DvL.of_strs⟩
        | none => rw [q2] at p; exact p.elim
    · exact p.elim
  | _ => exact p.elim
end DL

namespace DL
open PySem PySem.Spec PyProof.Rows L2
variable [TabCtx]

/-! ### readings, reckoned step by step (the rest of a step is not looked at before its first part is a value) -/
section
variable {α β : Type} {env env1 env2 : Cs}
theorem bind_ok (x : α) (env : Cs) (f : α → Cs → Out β) : Out.bind (.ok x env) f = f x env := rfl
theorem bind_exc (c : Str) (f : α → Cs → Out β) : Out.bind (.exc c) f = .exc c := rfl
theorem bs_ok (x : α) (env : Cs) (f : α → Cs → OS) : Out.bs (.ok x env) f = f x env := rfl
theorem bs_exc (c : Str) (f : α → Cs → OS) : Out.bs (.exc c) f = .exc c := rfl
/-- a type that names what comes after, so that the simplifier leaves that alone -/
@[reducible] def Tg {σ : Type} (_ : σ) (T : Type) : Type := T
def bindX (f : α → Cs → Out β) (o : Tg f (Out α)) : Out β := Out.bind o f
def bsX (f : α → Cs → OS) (o : Tg f (Out α)) : OS := Out.bs o f
theorem bind_X (o : Out α) (f : α → Cs → Out β) : Out.bind o f = bindX f o := rfl
theorem bs_X (o : Out α) (f : α → Cs → OS) : Out.bs o f = bsX f o := rfl
theorem bindX_ok (x : α) (env : Cs) (f : α → Cs → Out β) : bindX f (.ok x env) = f x env := rfl
theorem bindX_exc (c : Str) (f : α → Cs → Out β) : bindX f (.exc c) = .exc c := rfl
theorem bsX_ok (x : α) (env : Cs) (f : α → Cs → OS) : bsX f (.ok x env) = f x env := rfl
theorem bsX_exc (c : Str) (f : α → Cs → OS) : bsX f (.exc c) = .exc c := rfl
def OS.seq : OS → (Cs → OS) → OS
  | .nx e, h => h e
  | .stuck, _ => .stuck
  | .exc c, _ => .exc c
  | .rt r, _ => .rt r
  | .bk e, _ => .bk e
  | .ct e, _ => .ct e
def seqX (h : Cs → OS) (o : Tg h OS) : OS := OS.seq o h
theorem seq_X (o : OS) (h : Cs → OS) : OS.seq o h = seqX h o := rfl
theorem seq_nx (e : Cs) (h : Cs → OS) : seqX h (.nx e) = h e := rfl
theorem seq_rt (r : Rn) (h : Cs → OS) : seqX h (.rt r) = .rt r := rfl
theorem seq_exc (r : Str) (h : Cs → OS) : seqX h (.exc r) = .exc r := rfl
theorem seq_ct (r : Cs) (h : Cs → OS) : seqX h (.ct r) = .ct r := rfl
theorem seq_bk (r : Cs) (h : Cs → OS) : seqX h (.bk r) = .bk r := rfl
theorem e_sSeq (g h : Cs → OS) (env : Cs) : sSeq g h env = (g env).seq h := by unfold sSeq; cases g env <;> rfl
theorem e_sNx (env : Cs) : sNx env = .nx env := rfl
theorem e_sCt (env : Cs) : sCt env = .ct env := rfl
theorem e_sBk (env : Cs) : sBk env = .bk env := rfl
def nlK (r : RV) (env1 : Cs) : Out RV := match r with
  | .loc i => (settle env1 (.loc i)).bind fun d env2 => .ok (.frz d) env2
  | .frz d => .ok (.frz d) env1
  | .tmp d => .ok (.tmp d) env1
theorem e_gNl (g : Cs → Out RV) (env : Cs) : gNl g env = (g env).bind nlK := rfl
theorem nlK_frz (d : D) (env : Cs) : nlK (.frz d) env = .ok (.frz d) env := rfl
theorem nlK_tmp (d : D) (env : Cs) : nlK (.tmp d) env = .ok (.tmp d) env := rfl
theorem settle_frz (d : D) (env : Cs) : settle env (.frz d) = .ok d env := rfl
theorem settle_tmp (d : D) (env : Cs) : settle env (.tmp d) = .ok d env := rfl
theorem settle_own {i : Nat} {d : D} (h : env[i]? = some (.own d)) : settle env (.loc i) = .ok d (env.set i (.frz d)) := by dsimp only [settle]; rw [h]
theorem settle_is {i : Nat} {d : D} (h : env[i]? = some (.frz d)) : settle env (.loc i) = .ok d env := by dsimp only [settle]; rw [h]
theorem nlK_own {i : Nat} {d : D} (h : env[i]? = some (.own d)) : nlK (.loc i) env = .ok (.frz d) (env.set i (.frz d)) := by show Out.bind _ _ = _; rw [settle_own h]; rfl
theorem e_gSet (g : Cs → Out RV) (env : Cs) : gSet g env = (g env).bind fun r env1 => settle env1 r := rfl
theorem val_frz (d : D) (env : Cs) : valOf env (.frz d) = some d := rfl
theorem val_tmp (d : D) (env : Cs) : valOf env (.tmp d) = some d := rfl
theorem val_own {i : Nat} {d : D} (h : env[i]? = some (.own d)) : valOf env (.loc i) = some d := by dsimp only [valOf]; rw [h]
theorem val_is {i : Nat} {d : D} (h : env[i]? = some (.frz d)) : valOf env (.loc i) = some d := by dsimp only [valOf]; rw [h]
def pkK (r : RV) (env1 : Cs) : Out D := match valOf env1 r with
  | some d => .ok d env1
  | none => .stuck
theorem e_gPk (g : Cs → Out RV) (env : Cs) : gPk g env = (g env).bind pkK := rfl
theorem pkK_val {r : RV} {d : D} (h : valOf env r = some d) : pkK r env = .ok d env := by unfold pkK; rw [h]
theorem pkK_frz (d : D) (env : Cs) : pkK (.frz d) env = .ok d env := rfl
theorem pkK_tmp (d : D) (env : Cs) : pkK (.tmp d) env = .ok d env := rfl
theorem e_gC (d : D) (env : Cs) : gC d env = .ok (.frz d) env := rfl
theorem e_gVf {i : Nat} {d : D} (h : env[i]? = some (.frz d)) : gV i env = .ok (.frz d) env := by unfold gV; rw [h]
theorem e_gVo {i : Nat} {d : D} (h : env[i]? = some (.own d)) : gV i env = .ok (.loc i) env := by unfold gV; rw [h]
def bK (r : RV) (env1 : Cs) : Out Bool := match r with
  | .frz (.bl b) => .ok b env1
  | _ => .stuck
theorem e_gB (g : Cs → Out RV) (env : Cs) : gB g env = (g env).bind bK := rfl
theorem bK_bl (b : Bool) (env : Cs) : bK (.frz (.bl b)) env = .ok b env := rfl
theorem e_gNot (g : Cs → Out Bool) (env : Cs) : gNot g env = (g env).bind fun b env1 => .ok (!b) env1 := rfl
theorem e_gAnd (g h : Cs → Out Bool) (env : Cs) : gAnd g h env = (g env).bind fun b env1 => if b = true then h env1 else .ok false env1 := rfl
theorem e_gOr (g h : Cs → Out Bool) (env : Cs) : gOr g h env = (g env).bind fun b env1 => if b = true then .ok true env1 else h env1 := rfl
theorem e_gAndV (g h : Cs → Out RV) (env : Cs) : gAndV g h env = (gB g env).bind fun b env1 => if b = true then h env1 else .ok (.frz (.bl false)) env1 := rfl
theorem e_gOrV (g h : Cs → Out RV) (env : Cs) : gOrV g h env = (gB g env).bind fun b env1 => if b = true then .ok (.frz (.bl true)) env1 else h env1 := rfl
theorem e_gNotV (g : Cs → Out RV) (env : Cs) : gNotV g env = (gB g env).bind fun b env1 => .ok (.frz (.bl (!b))) env1 := rfl
theorem e_gIf (c : Cs → Out Bool) (g h : Cs → Out RV) (env : Cs) : gIf c g h env = (c env).bind fun b env1 => if b = true then g env1 else h env1 := rfl
theorem e_sIf (c : Cs → Out Bool) (g h : Cs → OS) (env : Cs) : sIf c g h env = (c env).bs fun b env1 => if b = true then g env1 else h env1 := rfl
def k1 (s : D → Option Rn) (r : RV) (env1 : Cs) : Out RV := match valOf env1 r with
  | some d => outR env1 (s d)
  | none => .stuck
theorem e_g1 (s : D → Option Rn) (ga : Cs → Out RV) (env : Cs) : g1 s ga env = (ga env).bind (k1 s) := rfl
theorem k1_frz (s : D → Option Rn) (d : D) (env : Cs) : k1 s (.frz d) env = outR env (s d) := rfl
theorem k1_tmp (s : D → Option Rn) (d : D) (env : Cs) : k1 s (.tmp d) env = outR env (s d) := rfl
theorem k1_val {s : D → Option Rn} {r : RV} {d : D} (h : valOf env r = some d) : k1 s r env = outR env (s d) := by unfold k1; rw [h]
def k2 (s : D → D → Option Rn) (r1 r2 : RV) (env2 : Cs) : Out RV := match valOf env2 r1, valOf env2 r2 with
  | some d, some e => outR env2 (s d e)
  | _, _ => .stuck
theorem e_g2 (s : D → D → Option Rn) (ga gb : Cs → Out RV) (env : Cs) : g2 s ga gb env = (ga env).bind fun r1 env1 => (gb env1).bind (k2 s r1) := rfl
theorem k2_val {s : D → D → Option Rn} {r1 r2 : RV} {d e : D} (h1 : valOf env r1 = some d) (h2 : valOf env r2 = some e) : k2 s r1 r2 env = outR env (s d e) := by unfold k2; rw [h1, h2]
theorem k2_ff (s : D → D → Option Rn) (d e : D) (env : Cs) : k2 s (.frz d) (.frz e) env = outR env (s d e) := rfl
theorem k2_ft (s : D → D → Option Rn) (d e : D) (env : Cs) : k2 s (.frz d) (.tmp e) env = outR env (s d e) := rfl
theorem k2_tf (s : D → D → Option Rn) (d e : D) (env : Cs) : k2 s (.tmp d) (.frz e) env = outR env (s d e) := rfl
theorem k2_tt (s : D → D → Option Rn) (d e : D) (env : Cs) : k2 s (.tmp d) (.tmp e) env = outR env (s d e) := rfl
theorem k2_lf {s : D → D → Option Rn} {i : Nat} {d e : D} (h : env[i]? = some (.own d)) : k2 s (.loc i) (.frz e) env = outR env (s d e) := k2_val (val_own h) rfl
theorem k2_lt {s : D → D → Option Rn} {i : Nat} {d e : D} (h : env[i]? = some (.own d)) : k2 s (.loc i) (.tmp e) env = outR env (s d e) := k2_val (val_own h) rfl
theorem k2_fl {s : D → D → Option Rn} {i : Nat} {d e : D} (h : env[i]? = some (.own d)) : k2 s (.frz e) (.loc i) env = outR env (s e d) := k2_val rfl (val_own h)
theorem k2_tl {s : D → D → Option Rn} {i : Nat} {d e : D} (h : env[i]? = some (.own d)) : k2 s (.tmp e) (.loc i) env = outR env (s e d) := k2_val rfl (val_own h)
theorem k2_ll {s : D → D → Option Rn} {i j : Nat} {d e : D} (h : env[i]? = some (.own d)) (h' : env[j]? = some (.own e)) : k2 s (.loc i) (.loc j) env = outR env (s d e) := k2_val (val_own h) (val_own h')
theorem k1_own {s : D → Option Rn} {i : Nat} {d : D} (h : env[i]? = some (.own d)) : k1 s (.loc i) env = outR env (s d) := k1_val (val_own h)
theorem outR_f (d : D) (env : Cs) : outR env (some (.f d)) = .ok (.frz d) env := rfl
theorem outR_t (d : D) (env : Cs) : outR env (some (.t d)) = .ok (.tmp d) env := rfl
def chK (f1 f2 : Int → Int → Bool) (gc : Cs → Out RV) (a b : D) (env2 : Cs) : Out RV := match a, b with
  | .int i, .int j => if f1 i j = true then (gSet gc env2).bind fun c env3 => match c with
      | .int k => .ok (.frz (.bl (f2 j k))) env3
      | _ => .stuck
    else .ok (.frz (.bl false)) env2
  | _, _ => .stuck
def chK2 (f2 : Int → Int → Bool) (j : Int) (c : D) (env3 : Cs) : Out RV := match c with
  | .int k => .ok (.frz (.bl (f2 j k))) env3
  | _ => .stuck
theorem e_gCh (f1 f2 : Int → Int → Bool) (ga gb gc : Cs → Out RV) (env : Cs) : gCh f1 f2 ga gb gc env = (gSet ga env).bind fun a env1 => (gSet gb env1).bind (chK f1 f2 gc a) := rfl
theorem chK_int (f1 f2 : Int → Int → Bool) (gc : Cs → Out RV) (i j : Int) (env : Cs) : chK f1 f2 gc (.int i) (.int j) env = if f1 i j = true then (gSet gc env).bind (chK2 f2 j) else .ok (.frz (.bl false)) env := rfl
theorem chK2_int (f2 : Int → Int → Bool) (j k : Int) (env : Cs) : chK2 f2 j (.int k) env = .ok (.frz (.bl (f2 j k))) env := rfl
def orK (o : OR) (env : Cs) : Out RV := match o with
  | .stuck => .stuck
  | .exc c => .exc c
  | .ret r => outR env (some r)
theorem orK_ret (r : Rn) (env : Cs) : orK (.ret r) env = outR env (some r) := rfl
theorem orK_exc (c : Str) (env : Cs) : orK (.exc c) env = .exc c := rfl
theorem e_gCall (fs : List D → OR) (n : Nat) (gs : Cs → Out (List D)) (env : Cs) : gCall fs n gs env = (gs env).bind fun ds env1 => if ds.length = n then orK (fs ds) env1 else .stuck := by
  have e : ∀ (ds : List D) (env1 : Cs), (if ds.length = n then orK (fs ds) env1 else .stuck) = (if ds.length = n then (match fs ds with | .stuck => Out.stuck | .exc c => .exc c | .ret r => outR env1 (some r)) else .stuck) := fun ds env1 => rfl
  rfl
theorem e_gaN (env : Cs) : gaN env = .ok [] env := rfl
theorem e_gaC (g : Cs → Out D) (gs : Cs → Out (List D)) (env : Cs) : gaC g gs env = (g env).bind fun d env1 => (gs env1).bind fun ds env2 => .ok (d :: ds) env2 := rfl
theorem e_gTp (gs : Cs → Out (List D)) (env : Cs) : gTp gs env = (gs env).bind fun ds env1 => if ds.length ≤ lineN then .ok (.frz (.tup ds)) env1 else .stuck := rfl
theorem e_gLs (gs : Cs → Out (List D)) (env : Cs) : gLs gs env = (gs env).bind fun ds env1 => if ds.length ≤ lineN then .ok (.tmp (.lst ds)) env1 else .stuck := rfl
theorem e_gDn (d : D) (env : Cs) : gDn d env = .ok (.tmp d) env := rfl
theorem e_sSet (i : Nat) (g : Cs → Out RV) (env : Cs) : sSet i g env = (gNl g env).bs fun r env1 => .nx (env1.set i (cellOf r)) := rfl
theorem e_sEx (g : Cs → Out RV) (env : Cs) : sEx g env = (g env).bs fun _ env1 => .nx env1 := rfl
theorem e_sRet (g : Cs → Out RV) (env : Cs) : sRet g env = (g env).bs fun r env1 => retOf env1 r := rfl
theorem ret_frz (d : D) (env : Cs) : retOf env (.frz d) = .rt (.f d) := rfl
theorem ret_tmp (d : D) (env : Cs) : retOf env (.tmp d) = .rt (.t d) := rfl
theorem ret_own {i : Nat} {d : D} (h : env[i]? = some (.own d)) : retOf env (.loc i) = .rt (.t d) := by dsimp only [retOf]; rw [h]
theorem cell_frz (d : D) : cellOf (.frz d) = .frz d := rfl
theorem cell_tmp (d : D) : cellOf (.tmp d) = .own d := rfl
theorem e_sPar2 (i j : Nat) (ga gb : Cs → Out RV) (env : Cs) : sPar2 i j ga gb env = (gNl ga env).bs fun r1 env1 => (gNl gb env1).bs fun r2 env2 => .nx ((env2.set i (cellOf r1)).set j (cellOf r2)) := rfl
theorem e_sPar3 (i j l : Nat) (ga gb gc : Cs → Out RV) (env : Cs) : sPar3 i j l ga gb gc env = (gNl ga env).bs fun r1 env1 => (gNl gb env1).bs fun r2 env2 => (gNl gc env2).bs fun r3 env3 => .nx (((env3.set i (cellOf r1)).set j (cellOf r2)).set l (cellOf r3)) := rfl
def appK (i : Nat) (d : D) (env1 : Cs) : Out RV := match env1[i]? with
  | some (.own (.lst xs)) => if sz (xs.length + 1) = true then .ok (.frz .non) (env1.set i (.own (.lst (xs ++ [d])))) else .stuck
  | _ => .stuck
theorem e_gApp {i : Nat} {g : Cs → Out D} {xs : List D} (h : env[i]? = some (.own (.lst xs))) : gApp i g env = (g env).bind (appK i) := by unfold gApp; rw [h]; rfl
theorem appK_own {i : Nat} {d : D} {xs : List D} (h : env[i]? = some (.own (.lst xs))) : appK i d env = if sz (xs.length + 1) = true then .ok (.frz .non) (env.set i (.own (.lst (xs ++ [d])))) else .stuck := by unfold appK; rw [h]
def extK (i : Nat) (d : D) (env1 : Cs) : Out RV := match env1[i]?, d with
  | some (.own (.lst xs)), .lst ys => if sz (xs.length + ys.length) = true then .ok (.frz .non) (env1.set i (.own (.lst (xs ++ ys)))) else .stuck
  | some (.own (.lst xs)), .tup ys => if sz (xs.length + ys.length) = true then .ok (.frz .non) (env1.set i (.own (.lst (xs ++ ys)))) else .stuck
  | _, _ => .stuck
theorem e_gExt {i : Nat} {g : Cs → Out D} {xs : List D} (h : env[i]? = some (.own (.lst xs))) : gExt i g env = (g env).bind (extK i) := by unfold gExt; rw [h]; rfl
theorem extK_own {i : Nat} {xs ys : List D} (h : env[i]? = some (.own (.lst xs))) : extK i (.lst ys) env = if sz (xs.length + ys.length) = true then .ok (.frz .non) (env.set i (.own (.lst (xs ++ ys)))) else .stuck := by unfold extK; rw [h]
theorem e_gPop {i : Nat} {xs : List D} {d : D} (h : env[i]? = some (.own (.lst (xs ++ [d])))) : gPop i env = .ok (.frz d) (env.set i (.own (.lst xs))) := by
  unfold gPop
  rw [h]
  simp
def getK (r1 : RV) (k x : D) (env3 : Cs) : Out RV := match valOf env3 r1 with
  | some d => match dget d k with
    | some (some y) => .ok (.frz y) env3
    | some none => .ok (.frz x) env3
    | none => .stuck
  | none => .stuck
theorem e_gGet (gd gk gx : Cs → Out RV) (env : Cs) : gGet' gd gk gx env = (gd env).bind fun r1 env1 => match valOf env1 r1 with
    | some d0 => if isDict d0 = true then (gSet gk env1).bind fun k env2 => (gSet gx env2).bind (getK r1 k) else .stuck
    | none => .stuck := rfl
/-- d.get(k, x) off a dict whose keys are ints and texts -/
theorem getK_f {es : List (Key × D)} {k x : D} {kk : Key} (hk : asKey k = some kk) : getK (.frz (.dK es)) k x env = .ok (.frz ((look es kk).getD x)) env := by
  show (match dget (.dK es) k with | some (some y) => Out.ok (RV.frz y) env | some none => .ok (.frz x) env | none => .stuck) = _
  dsimp only [dget]
  rw [hk]
  show (match some (look es kk) with | some (some y) => Out.ok (RV.frz y) env | some none => .ok (.frz x) env | none => .stuck) = _
  cases look es kk <;> rfl
theorem getK_o {i : Nat} {es : List (Key × D)} {k x : D} {kk : Key} (h : env[i]? = some (.own (.dK es))) (hk : asKey k = some kk) : getK (.loc i) k x env = .ok (.frz ((look es kk).getD x)) env := by
  unfold getK
  rw [val_own h]
  dsimp only [dget]
  rw [hk]
  show (match some (look es kk) with | some (some y) => Out.ok (RV.frz y) env | some none => .ok (.frz x) env | none => .stuck) = _
  cases look es kk <;> rfl
theorem e_sFor (gi : Cs → Out (List D)) (t : D → Cs → Option Cs) (b : Cs → OS) (env : Cs) : sFor gi t b env = (gi env).bs fun ds env1 => forL t b ds env1 := rfl
theorem e_gLc (vs : List Nat) (gi : Cs → Out (List D)) (t : D → Cs → Option Cs) (c : Cs → Out Bool) (g : Cs → Out D) (env : Cs) : gLc vs gi t c g env = (gi env).bind fun ds env1 => lcL vs t c g ds env1 [] := rfl
def itK (d : D) (env1 : Cs) : Out (List D) := match itemsOf d with
  | some ds => .ok ds env1
  | none => .stuck
theorem e_giA (g : Cs → Out RV) (env : Cs) : giA g env = (gSet g env).bind itK := rfl
theorem itK_lst (xs : List D) (env : Cs) : itK (.lst xs) env = .ok xs env := rfl
theorem itK_tup (xs : List D) (env : Cs) : itK (.tup xs) env = .ok xs env := rfl
theorem itK_dK (es : List (Key × D)) (env : Cs) : itK (.dK es) env = .ok (es.map fun e => kD e.1) env := rfl
theorem itK_str (z : Str) (env : Cs) : itK (.str z) env = .ok (z.cps.toList.map fun c => .str ⟨#[c]⟩) env := rfl
def r1K (d : D) (env1 : Cs) : Out (List D) := match d with
  | .int j => if rgB j = true then .ok (rngL 0 j) env1 else .stuck
  | _ => .stuck
theorem e_giR1 (g : Cs → Out RV) (env : Cs) : giR1 g env = (gSet g env).bind r1K := rfl
theorem r1K_int (j : Int) (env : Cs) : r1K (.int j) env = if rgB j = true then .ok (rngL 0 j) env else .stuck := rfl
def r2K (d e : D) (env1 : Cs) : Out (List D) := match d, e with
  | .int i, .int j => if (rgB i && rgB j) = true then .ok (rngL i j) env1 else .stuck
  | _, _ => .stuck
theorem e_giR2 (ga gb : Cs → Out RV) (env : Cs) : giR2 ga gb env = (gSet ga env).bind fun d env1 => (gSet gb env1).bind (r2K d) := rfl
theorem r2K_int (i j : Int) (env : Cs) : r2K (.int i) (.int j) env = if (rgB i && rgB j) = true then .ok (rngL i j) env else .stuck := rfl
def enK (d : D) (env1 : Cs) : Out (List D) := match d with
  | .lst xs => .ok (xs.zipIdx.map fun p => .tup [.int (p.2 : Nat), p.1]) env1
  | _ => .stuck
theorem e_giE (g : Cs → Out RV) (env : Cs) : giE g env = (gSet g env).bind enK := rfl
theorem enK_lst (xs : List D) (env : Cs) : enK (.lst xs) env = .ok (xs.zipIdx.map fun p => .tup [.int (p.2 : Nat), p.1]) env := rfl
theorem e_tN (i : Nat) (d : D) (env : Cs) : tN i d env = some (env.set i (.frz d)) := rfl
def putK2 (i : Nat) (v k : D) (env2 : Cs) : OS := match env2[i]? with
  | some (.own d) => match putD d k v with
    | some d' => .nx (env2.set i (.own d'))
    | none => .stuck
  | _ => .stuck
def putK1 (i : Nat) (gk : Cs → Out D) (v : D) (env1 : Cs) : OS := match env1[i]? with
  | some (.own _) => (gk env1).bs (putK2 i v)
  | _ => .stuck
theorem e_sPut (i : Nat) (gk gv : Cs → Out D) (env : Cs) : sPut i gk gv env = (gv env).bs (putK1 i gk) := rfl
theorem putK1_own {i : Nat} {gk : Cs → Out D} {v d : D} (h : env[i]? = some (.own d)) : putK1 i gk v env = (gk env).bs (putK2 i v) := by unfold putK1; rw [h]
theorem putK2_dK {i : Nat} {v k : D} {es : List (Key × D)} {kk : Key} (h : env[i]? = some (.own (.dK es))) (hk : asKey k = some kk) : putK2 i v k env = if sz (es.length + 1) = true then .nx (env.set i (.own (.dK (put es kk v)))) else .stuck := by
  unfold putK2
  rw [h]
  dsimp only [putD]
  rw [hk]
  dsimp only
  by_cases hz : sz (es.length + 1) = true
  · rw [if_pos hz, if_pos hz]
  · rw [if_neg hz, if_neg hz]
theorem asKey_int (i : Int) : asKey (.int i) = some (.inl i) := rfl
theorem asKey_str (s : Str) : asKey (.str s) = some (.inr s) := rfl
def asgK (t : D → Cs → Option Cs) (d : D) (env1 : Cs) : OS := match t d env1 with
  | some env2 => .nx env2
  | none => .stuck
theorem e_sAsg (t : D → Cs → Option Cs) (g : Cs → Out D) (env : Cs) : sAsg t g env = (g env).bs (asgK t) := rfl
theorem e_gYes (env : Cs) : gYes env = .ok true env := rfl
theorem e_goN (env : Cs) : goN env = .ok none env := rfl
def goK (d : D) (env1 : Cs) : Out (Option Int) := match d with
  | .int i => .ok (some i) env1
  | _ => .stuck
theorem e_goS (g : Cs → Out RV) (env : Cs) : goS g env = (gSet g env).bind goK := rfl
theorem goK_int (i : Int) (env : Cs) : goK (.int i) env = .ok (some i) env := rfl
def slK (r : RV) (lo hi : Option Int) (env3 : Cs) : Out RV := match valOf env3 r with
  | some (.lst xs) => .ok (.tmp (.lst (cutD xs lo hi))) env3
  | some (.tup xs) => .ok (.frz (.tup (cutD xs lo hi))) env3
  | _ => .stuck
theorem e_gSl (g : Cs → Out RV) (gl gh : Cs → Out (Option Int)) (env : Cs) : gSl g gl gh env = (g env).bind fun r env1 => (gl env1).bind fun lo env2 => (gh env2).bind (slK r lo) := rfl
theorem slK_f (xs : List D) (lo hi : Option Int) (env : Cs) : slK (.frz (.lst xs)) lo hi env = .ok (.tmp (.lst (cutD xs lo hi))) env := rfl
theorem slK_t (xs : List D) (lo hi : Option Int) (env : Cs) : slK (.tmp (.lst xs)) lo hi env = .ok (.tmp (.lst (cutD xs lo hi))) env := rfl
theorem slK_o {i : Nat} {xs : List D} {lo hi : Option Int} (h : env[i]? = some (.own (.lst xs))) : slK (.loc i) lo hi env = .ok (.tmp (.lst (cutD xs lo hi))) env := by unfold slK; rw [val_own h]
theorem noE_ok {γ : Type} {g : Cs → Out γ} {x : γ} (h : g env = .ok x env1) : noE g env = .ok x env1 := by unfold noE; rw [h]
end
/-! the operations -/
theorem e_add (i j : Int) : sAdd (.int i) (.int j) = some (.f (.int (i + j))) := rfl
theorem e_sub (i j : Int) : sSub (.int i) (.int j) = some (.f (.int (i - j))) := rfl
theorem e_neg (i : Int) : sNeg (.int i) = some (.f (.int (-i))) := rfl
theorem e_mulR {i j : Int} (h : j.natAbs < 2 ^ 64) : sMul (.int i) (.int j) = some (.f (.int (i * j))) := by
  show (if mulOk i j = true then _ else _) = _
  rw [if_pos]
  unfold mulOk
  simp [h]
theorem e_mulL {i j : Int} (h : i.natAbs < 2 ^ 64) : sMul (.int i) (.int j) = some (.f (.int (i * j))) := by
  show (if mulOk i j = true then _ else _) = _
  rw [if_pos]
  unfold mulOk
  simp [h]
theorem e_mulW {i j : Int} (h : i.natAbs < 2 ^ 300) (h' : j.natAbs < 2 ^ 300) : sMul (.int i) (.int j) = some (.f (.int (i * j))) := by
  show (if mulOk i j = true then _ else _) = _
  rw [if_pos]
  unfold mulOk
  rw [decide_eq_true h, decide_eq_true h']
  simp
theorem e_fdiv {i j : Int} (h : 0 < j) (h' : j.natAbs < 2 ^ 300) : sFdiv (.int i) (.int j) = some (.f (.int (i / j))) := if_pos ⟨h, h'⟩
theorem e_mod {i j : Int} (h : 0 < j) : sMod (.int i) (.int j) = some (.f (.int (i % j))) := if_pos h
theorem e_cmp (f : Int → Int → Bool) (i j : Int) : sCmp f (.int i) (.int j) = some (.f (.bl (f i j))) := rfl
theorem e_ltI (i j : Int) : sLt (.int i) (.int j) = some (.f (.bl (decide (i < j)))) := rfl
theorem e_ltS (a b : Str) : sLt (.str a) (.str b) = some (.f (.bl (decide (a.cps.toList < b.cps.toList)))) := rfl
theorem e_cat {xs ys : List D} (h : xs.length + ys.length ≤ 16777216) : sAdd (.lst xs) (.lst ys) = some (.t (.lst (xs ++ ys))) := if_pos (decide_eq_true h)
theorem e_eqI (i j : Int) : sEq (.int i) (.int j) = some (.f (.bl (decide (i = j)))) := by
  show (eqA _ _).map _ = _
  unfold eqA scalD flatE
  simp [scal]
theorem e_neI (i j : Int) : sNe (.int i) (.int j) = some (.f (.bl (!decide (i = j)))) := by
  show (eqA _ _).map _ = _
  unfold eqA scalD flatE
  simp [scal]
theorem e_eqS (i j : Str) : sEq (.str i) (.str j) = some (.f (.bl (decide (i = j)))) := by
  show (eqA _ _).map _ = _
  unfold eqA scalD flatE
  simp [scal]
theorem e_neS (i j : Str) : sNe (.str i) (.str j) = some (.f (.bl (!decide (i = j)))) := by
  show (eqA _ _).map _ = _
  unfold eqA scalD flatE
  simp [scal]
theorem e_ixT {xs : List D} {i : Int} {d : D} (h : L2.atI xs i = some d) : sIx (.tup xs) (.int i) = some (.f d) := by show (L2.atI xs i).map _ = _; rw [h]; rfl
theorem e_ixL {xs : List D} {i : Int} {d : D} (h : L2.atI xs i = some d) : sIx (.lst xs) (.int i) = some (.f d) := by show (L2.atI xs i).map _ = _; rw [h]; rfl
theorem e_ixK {es : List (Key × D)} {k d : D} {kk : Key} (hk : asKey k = some kk) (h : look es kk = some d) : sIx (.dK es) k = some (.f d) := by
  show (match dget (.dK es) k with | some (some d') => some (Rn.f d') | _ => none) = _
  dsimp only [dget]
  rw [hk]
  show (match some (look es kk) with | some (some d') => some (Rn.f d') | _ => none) = _
  rw [h]
theorem e_ix0 (a : D) (r : List D) : sIx (.tup (a :: r)) (.int 0) = some (.f a) := e_ixT (atI_nat (j := 0) rfl)
theorem e_ix1 (a b : D) (r : List D) : sIx (.tup (a :: b :: r)) (.int 1) = some (.f b) := e_ixT (atI_nat (j := 1) rfl)
theorem e_ix2 (a b c : D) (r : List D) : sIx (.tup (a :: b :: c :: r)) (.int 2) = some (.f c) := e_ixT (atI_nat (j := 2) rfl)
theorem e_ix3 (a b c d : D) (r : List D) : sIx (.tup (a :: b :: c :: d :: r)) (.int 3) = some (.f d) := e_ixT (atI_nat (j := 3) rfl)
theorem e_lenL (xs : List D) : sLen (.lst xs) = some (.f (.int xs.length)) := rfl
theorem e_lenT (xs : List D) : sLen (.tup xs) = some (.f (.int xs.length)) := rfl
theorem e_lenC (xs : List Int) : sLen (.scr xs) = some (.f (.int xs.length)) := rfl
theorem e_lenK (es : List (Key × D)) : sLen (.dK es) = some (.f (.int es.length)) := rfl
theorem e_lenS {z : Str} (h : z.length ≤ 16777216) : sLen (.str z) = some (.f (.int z.length)) := if_pos (decide_eq_true h)
theorem e_sum (ns : List Int) : sSum (.lst (ns.map .int)) = some (.f (.int ns.sum)) := by show (asInts _).map _ = _; rw [asInts_map]; rfl
theorem e_all (bs : List Bool) : sAll (.lst (bs.map .bl)) = some (.f (.bl (bs.all id))) := by show (asBls _).map _ = _; rw [asBls_map]; rfl
theorem e_max {ns : List Int} (h : ns ≠ []) : sMax (.lst (ns.map .int)) = some (.f (.int (maxI ns))) := by
  show (match asInts (ns.map .int) with | some ns => _ | none => _) = _
  rw [asInts_map]
  dsimp only
  rw [if_neg]
  cases ns with
  | nil => exact absurd rfl h
  | cons _ _ => simp
theorem e_max2 (i j : Int) : sMax2 (.int i) (.int j) = some (.f (.int (max i j))) := by
  show some (Rn.f (D.int (if j > i then j else i))) = _
  congr 3
  split <;> omega
theorem e_min2 (i j : Int) : sMin2 (.int i) (.int j) = some (.f (.int (min i j))) := by
  show some (Rn.f (D.int (if j < i then j else i))) = _
  congr 3
  split <;> omega
theorem e_tupL (xs : List D) : sTupleOf (.lst xs) = some (.f (.tup xs)) := rfl
theorem e_lstT (xs : List D) : sListOf (.tup xs) = some (.t (.lst xs)) := rfl
theorem e_lstL (xs : List D) : sListOf (.lst xs) = some (.t (.lst xs)) := rfl
theorem e_revL (xs : List D) : sRev (.lst xs) = some (.t (.lst xs.reverse)) := rfl
/-! isinstance -/
theorem kb (a b : String) (r : Bool) (h : kitB a b = some r) (d : D) (hd : tyN d = some a) : sIsi b d = some (.f (.bl r)) := by unfold sIsi; rw [hd]; dsimp only; rw [h]; rfl
theorem isi_int_int (i : Int) : sIsi "int" (.int i) = some (.f (.bl true)) := kb "int" "int" true (by decide +kernel) _ rfl
theorem isi_bool_int (i : Int) : sIsi "bool" (.int i) = some (.f (.bl false)) := kb "int" "bool" false (by decide +kernel) _ rfl
theorem isi_str_str (i : Str) : sIsi "str" (.str i) = some (.f (.bl true)) := kb "str" "str" true (by decide +kernel) _ rfl
theorem isi_tup (i : List D) : sIsi "tuple" (.tup i) = some (.f (.bl true)) := kb "tuple" "tuple" true (by decide +kernel) _ rfl
theorem isi_lst (i : List D) : sIsi "list" (.lst i) = some (.f (.bl true)) := kb "list" "list" true (by decide +kernel) _ rfl
theorem isi_dict (i : List (Key × D)) : sIsi "dict" (.dK i) = some (.f (.bl true)) := kb "dict" "dict" true (by decide +kernel) _ rfl
/-! ### loops over encoded lists -/
theorem forL_rel {α β : Type} (Rl : α → Cs → Prop) (enc : β → D) (step : α → β → α) {t : D → Cs → Option Cs} {b : Cs → OS} : ∀ (xs : List β) (a0 : α) (env0 : Cs), Rl a0 env0 →
    (∀ a x env, x ∈ xs → Rl a env → ∃ env1, t (enc x) env = some env1 ∧ ∃ env2, (b env1 = .nx env2 ∨ b env1 = .ct env2) ∧ Rl (step a x) env2) → ∃ env', forL t b (xs.map enc) env0 = .nx env' ∧ Rl (xs.foldl step a0) env'
  | [], a0, env0, h0, _ => ⟨env0, rfl, h0⟩
  | x :: xs, a0, env0, h0, h => by
    obtain ⟨env1, e1, env2, e2, h2⟩ := h a0 x env0 List.mem_cons_self h0
    obtain ⟨env', e3, h3⟩ := forL_rel Rl enc step xs (step a0 x) env2 h2 fun a y env m => h a y env (List.mem_cons_of_mem _ m)
    refine ⟨env', ?_, h3⟩
    rw [List.map_cons]
    unfold forL
    rw [e1]
    dsimp only
    rcases e2 with e2 | e2 <;> (rw [e2]; exact e3)
/-- a loop that may give something back on the way -/
theorem forL_rt {α β : Type} (Rl : α → Cs → Prop) (enc : β → D) (step : α → β → Rn ⊕ α) {t : D → Cs → Option Cs} {b : Cs → OS} (fin : List β → α → Rn ⊕ α) (hfn : ∀ a, fin [] a = .inr a) (hfc : ∀ x xs a, fin (x :: xs) a = match step a x with | .inl r => .inl r | .inr a' => fin xs a') : ∀ (xs : List β) (a0 : α) (env0 : Cs), Rl a0 env0 →
    (∀ a x env, x ∈ xs → Rl a env → ∃ env1, t (enc x) env = some env1 ∧ (match step a x with | .inl r => b env1 = .rt r | .inr a' => ∃ env2, (b env1 = .nx env2 ∨ b env1 = .ct env2) ∧ Rl a' env2)) →
    (match fin xs a0 with | .inl r => forL t b (xs.map enc) env0 = .rt r | .inr a' => ∃ env', forL t b (xs.map enc) env0 = .nx env' ∧ Rl a' env')
  | [], a0, env0, h0, _ => by rw [hfn]; exact ⟨env0, rfl, h0⟩
  | x :: xs, a0, env0, h0, h => by
    obtain ⟨env1, e1, h1⟩ := h a0 x env0 List.mem_cons_self h0
    rw [hfc, List.map_cons]
    unfold forL
    rw [e1]
    dsimp only
    cases q : step a0 x with
    | inl r => rw [q] at h1; dsimp only at h1 ⊢; rw [h1]
    | inr a' =>
      rw [q] at h1
      obtain ⟨env2, e2, h2⟩ := h1
      have ih := forL_rt Rl enc step fin hfn hfc xs a' env2 h2 fun a y env m => h a y env (List.mem_cons_of_mem _ m)
      rcases e2 with e2 | e2 <;> (rw [e2]; exact ih)
theorem lcL_map {β : Type} (enc : β → D) (f : β → Option D) {vs : List Nat} {t : D → Cs → Option Cs} {c : Cs → Out Bool} {g : Cs → Out D} {env : Cs} (hf : freeAt env vs = true) : ∀ (xs : List β),
    (∀ x ∈ xs, ∃ env1 env2, t (enc x) (wipeE env vs) = some env1 ∧ c env1 = .ok (f x).isSome env2 ∧ (match f x with | none => backE env env2 vs = env | some y => ∃ env3, g env2 = .ok y env3 ∧ backE env env3 vs = env)) →
    ∀ (acc : List D), acc.length + xs.length ≤ 16777216 → lcL vs t c g (xs.map enc) env acc = .ok (.tmp (.lst (acc ++ xs.filterMap f))) env
  | [], _, acc, _ => by simp [lcL]
  | x :: xs, h, acc, hz => by
    obtain ⟨env1, env2, e1, e2, e3⟩ := h x List.mem_cons_self
    rw [List.length_cons] at hz
    rw [List.map_cons, List.filterMap_cons]
    unfold lcL
    rw [if_pos hf, e1]
    dsimp only
    rw [e2]
    dsimp only [Out.bind]
    cases q : f x with
    | none =>
      rw [q] at e3
      rw [if_neg (by simp), e3]
      exact lcL_map enc f hf xs (fun y hy => h y (List.mem_cons_of_mem _ hy)) acc (by omega)
    | some y =>
      rw [q] at e3
      obtain ⟨env3, e4, e5⟩ := e3
      rw [if_pos (by simp), e4]
      dsimp only [Out.bind]
      rw [if_pos (show sz (acc.length + 1) = true from decide_eq_true (by omega)), e5, lcL_map enc f hf xs (fun y hy => h y (List.mem_cons_of_mem _ hy)) (acc ++ [y]) (by rw [List.length_append, List.length_singleton]; omega), List.append_assoc]
      rfl
theorem rngL_map (lo hi : Int) : rngL lo hi = (List.range (hi - lo).toNat).map fun i => .int (lo + (i : Nat)) := rfl
end DL

namespace DL
open PySem PySem.Spec PyProof.Rows L2
variable [TabCtx]

/-! ### the same equations with the cell in view (nothing to prove before they fire) -/
section
variable {env : Cs}
def vV (i : Nat) (env : Cs) : Option Cell → Out RV
  | some (.frz d) => .ok (.frz d) env
  | some (.own _) => .ok (.loc i) env
  | _ => .stuck
theorem v_gV (i : Nat) (env : Cs) : gV i env = vV i env env[i]? := by
  unfold gV vV
  rcases env[i]? with _ | c
  · rfl
  · cases c <;> rfl
theorem vV_f (i : Nat) (env : Cs) (d : D) : vV i env (some (.frz d)) = .ok (.frz d) env := rfl
theorem vV_o (i : Nat) (env : Cs) (d : D) : vV i env (some (.own d)) = .ok (.loc i) env := rfl
def vS (i : Nat) (env : Cs) : Option Cell → Out D
  | some (.own d) => .ok d (env.set i (.frz d))
  | some (.frz d) => .ok d env
  | _ => .stuck
theorem v_set (i : Nat) (env : Cs) : settle env (.loc i) = vS i env env[i]? := rfl
theorem vS_o (i : Nat) (env : Cs) (d : D) : vS i env (some (.own d)) = .ok d (env.set i (.frz d)) := rfl
theorem v_nl (i : Nat) (env : Cs) : nlK (.loc i) env = (settle env (.loc i)).bind fun d env2 => .ok (.frz d) env2 := rfl
def vL : Option Cell → Option D
  | some (.own d) => some d
  | some (.frz d) => some d
  | _ => none
theorem v_val (i : Nat) (env : Cs) : valOf env (.loc i) = vL env[i]? := rfl
theorem vL_o (d : D) : vL (some (.own d)) = some d := rfl
def vP (env : Cs) : Option D → Out D
  | some d => .ok d env
  | none => .stuck
theorem v_pk (r : RV) (env : Cs) : pkK r env = vP env (valOf env r) := rfl
theorem vP_s (env : Cs) (d : D) : vP env (some d) = .ok d env := rfl
def v1 (s : D → Option Rn) (env : Cs) : Option D → Out RV
  | some d => outR env (s d)
  | none => .stuck
theorem v_k1 (s : D → Option Rn) (r : RV) (env : Cs) : k1 s r env = v1 s env (valOf env r) := rfl
theorem v1_s (s : D → Option Rn) (env : Cs) (d : D) : v1 s env (some d) = outR env (s d) := rfl
def v2 (s : D → D → Option Rn) (env : Cs) : Option D → Option D → Out RV
  | some d, some e => outR env (s d e)
  | _, _ => .stuck
theorem v_k2 (s : D → D → Option Rn) (r1 r2 : RV) (env : Cs) : k2 s r1 r2 env = v2 s env (valOf env r1) (valOf env r2) := rfl
theorem v2_s (s : D → D → Option Rn) (env : Cs) (d e : D) : v2 s env (some d) (some e) = outR env (s d e) := rfl
def vR : Option Cell → OS
  | some (.own d) => .rt (.t d)
  | some (.frz d) => .rt (.f d)
  | _ => .stuck
theorem v_ret (i : Nat) (env : Cs) : retOf env (.loc i) = vR env[i]? := rfl
theorem vR_o (d : D) : vR (some (.own d)) = .rt (.t d) := rfl
def vA (i : Nat) (g : Cs → Out D) (env : Cs) : Option Cell → Out RV
  | some (.own (.lst _)) => (g env).bind (appK i)
  | _ => .stuck
theorem v_app (i : Nat) (g : Cs → Out D) (env : Cs) : gApp i g env = vA i g env env[i]? := by
  unfold gApp vA
  rcases env[i]? with _ | c
  · rfl
  · cases c with
    | own d => cases d <;> rfl
    | _ => rfl
theorem vA_o (i : Nat) (g : Cs → Out D) (env : Cs) (xs : List D) : vA i g env (some (.own (.lst xs))) = (g env).bind (appK i) := rfl
def vA2 (i : Nat) (d : D) (env : Cs) : Option Cell → Out RV
  | some (.own (.lst xs)) => if sz (xs.length + 1) = true then .ok (.frz .non) (env.set i (.own (.lst (xs ++ [d])))) else .stuck
  | _ => .stuck
theorem v_appK (i : Nat) (d : D) (env : Cs) : appK i d env = vA2 i d env env[i]? := rfl
theorem vA2_o (i : Nat) (d : D) (env : Cs) (xs : List D) : vA2 i d env (some (.own (.lst xs))) = if sz (xs.length + 1) = true then .ok (.frz .non) (env.set i (.own (.lst (xs ++ [d])))) else .stuck := rfl
def vE (i : Nat) (g : Cs → Out D) (env : Cs) : Option Cell → Out RV
  | some (.own (.lst _)) => (g env).bind (extK i)
  | _ => .stuck
theorem v_ext (i : Nat) (g : Cs → Out D) (env : Cs) : gExt i g env = vE i g env env[i]? := by
  unfold gExt vE
  rcases env[i]? with _ | c
  · rfl
  · cases c with
    | own d => cases d <;> rfl
    | _ => rfl
theorem vE_o (i : Nat) (g : Cs → Out D) (env : Cs) (xs : List D) : vE i g env (some (.own (.lst xs))) = (g env).bind (extK i) := rfl
def vE2 (i : Nat) (d : D) (env : Cs) : Option Cell → Out RV
  | some (.own (.lst xs)) => match d with
    | .lst ys => if sz (xs.length + ys.length) = true then .ok (.frz .non) (env.set i (.own (.lst (xs ++ ys)))) else .stuck
    | .tup ys => if sz (xs.length + ys.length) = true then .ok (.frz .non) (env.set i (.own (.lst (xs ++ ys)))) else .stuck
    | _ => .stuck
  | _ => .stuck
theorem v_extK (i : Nat) (d : D) (env : Cs) : extK i d env = vE2 i d env env[i]? := by
  unfold extK vE2
  rcases env[i]? with _ | c
  · rfl
  · cases c with
    | own e => cases e <;> cases d <;> rfl
    | _ => rfl
theorem vE2_o (i : Nat) (ys : List D) (env : Cs) (xs : List D) : vE2 i (.lst ys) env (some (.own (.lst xs))) = if sz (xs.length + ys.length) = true then .ok (.frz .non) (env.set i (.own (.lst (xs ++ ys)))) else .stuck := rfl
theorem vE2_t (i : Nat) (ys : List D) (env : Cs) (xs : List D) : vE2 i (.tup ys) env (some (.own (.lst xs))) = if sz (xs.length + ys.length) = true then .ok (.frz .non) (env.set i (.own (.lst (xs ++ ys)))) else .stuck := rfl
def vG (gk gx : Cs → Out RV) (r1 : RV) (env1 : Cs) : Option D → Out RV
  | some d0 => if isDict d0 = true then (gSet gk env1).bind fun k env2 => (gSet gx env2).bind (getK r1 k) else .stuck
  | none => .stuck
theorem v_get (gd gk gx : Cs → Out RV) (env : Cs) : gGet' gd gk gx env = (gd env).bind fun r1 env1 => vG gk gx r1 env1 (valOf env1 r1) := by
  rw [e_gGet]
  rfl
theorem vG_K (gk gx : Cs → Out RV) (r1 : RV) (env1 : Cs) (es : List (Key × D)) : vG gk gx r1 env1 (some (.dK es)) = (gSet gk env1).bind fun k env2 => (gSet gx env2).bind (getK r1 k) := rfl
def vG2 (k x : D) (env : Cs) : Option D → Out RV
  | some d => match dget d k with
    | some (some y) => .ok (.frz y) env
    | some none => .ok (.frz x) env
    | none => .stuck
  | none => .stuck
theorem v_getK (r : RV) (k x : D) (env : Cs) : getK r k x env = vG2 k x env (valOf env r) := rfl
theorem vG2_i (i : Int) (x : D) (env : Cs) (es : List (Key × D)) : vG2 (.int i) x env (some (.dK es)) = .ok (.frz ((look es (.inl i)).getD x)) env := by
  show (match some (look es (.inl i)) with | some (some y) => Out.ok (RV.frz y) env | some none => .ok (.frz x) env | none => .stuck) = _
  cases look es (.inl i) <;> rfl
theorem vG2_t (i : Str) (x : D) (env : Cs) (es : List (Key × D)) : vG2 (.str i) x env (some (.dK es)) = .ok (.frz ((look es (.inr i)).getD x)) env := by
  show (match some (look es (.inr i)) with | some (some y) => Out.ok (RV.frz y) env | some none => .ok (.frz x) env | none => .stuck) = _
  cases look es (.inr i) <;> rfl
def vU (i : Nat) (gk : Cs → Out D) (v : D) (env : Cs) : Option Cell → OS
  | some (.own _) => (gk env).bs (putK2 i v)
  | _ => .stuck
theorem v_put1 (i : Nat) (gk : Cs → Out D) (v : D) (env : Cs) : putK1 i gk v env = vU i gk v env env[i]? := rfl
theorem vU_o (i : Nat) (gk : Cs → Out D) (v d : D) (env : Cs) : vU i gk v env (some (.own d)) = (gk env).bs (putK2 i v) := rfl
def vU2 (i : Nat) (v k : D) (env : Cs) : Option Cell → OS
  | some (.own d) => match putD d k v with
    | some d' => .nx (env.set i (.own d'))
    | none => .stuck
  | _ => .stuck
theorem v_put2 (i : Nat) (v k : D) (env : Cs) : putK2 i v k env = vU2 i v k env env[i]? := rfl
theorem vU2_i (i : Nat) (v : D) (j : Int) (env : Cs) (es : List (Key × D)) : vU2 i v (.int j) env (some (.own (.dK es))) = if sz (es.length + 1) = true then .nx (env.set i (.own (.dK (put es (.inl j) v)))) else .stuck := by
  show (match (if sz (es.length + 1) = true then some (D.dK (put es (.inl j) v)) else none) with | some d' => OS.nx (env.set i (.own d')) | none => .stuck) = _
  split <;> simp_all
theorem vU2_t (i : Nat) (v : D) (j : Str) (env : Cs) (es : List (Key × D)) : vU2 i v (.str j) env (some (.own (.dK es))) = if sz (es.length + 1) = true then .nx (env.set i (.own (.dK (put es (.inr j) v)))) else .stuck := by
  show (match (if sz (es.length + 1) = true then some (D.dK (put es (.inr j) v)) else none) with | some d' => OS.nx (env.set i (.own d')) | none => .stuck) = _
  split <;> simp_all
def vC (lo hi : Option Int) (env : Cs) : Option D → Out RV
  | some (.lst xs) => .ok (.tmp (.lst (cutD xs lo hi))) env
  | some (.tup xs) => .ok (.frz (.tup (cutD xs lo hi))) env
  | _ => .stuck
theorem v_sl (r : RV) (lo hi : Option Int) (env : Cs) : slK r lo hi env = vC lo hi env (valOf env r) := rfl
theorem vC_t (xs : List D) (lo hi : Option Int) (env : Cs) : vC lo hi env (some (.tup xs)) = .ok (.frz (.tup (cutD xs lo hi))) env := rfl
theorem vC_l (xs : List D) (lo hi : Option Int) (env : Cs) : vC lo hi env (some (.lst xs)) = .ok (.tmp (.lst (cutD xs lo hi))) env := rfl
def nE {α : Type} : Out α → Out α
  | .exc _ => .stuck
  | o => o
theorem v_noE {α : Type} (g : Cs → Out α) (env : Cs) : noE g env = nE (g env) := rfl
theorem nE_ok {α : Type} (x : α) (env : Cs) : nE (.ok x env) = .ok x env := rfl
end
/-! ### a def's answer -/
def finR : OS → OR
  | .nx _ => .ret (.f .non)
  | .rt r => .ret r
  | .exc c => .exc c
  | _ => .stuck
theorem e_runF (N : Nat) (g : Cs → OS) (ds : List D) : runF N g ds = finR (g (ds.map Cell.frz ++ List.replicate (N - ds.length) .un)) := by
  unfold runF finR
  cases g (ds.map Cell.frz ++ List.replicate (N - ds.length) .un) <;> rfl
theorem fin_rt (r : Rn) : finR (.rt r) = .ret r := rfl
theorem fin_nx (e : Cs) : finR (.nx e) = .ret (.f .non) := rfl
theorem fin_exc (c : Str) : finR (.exc c) = .exc c := rfl
/-! ### what holds after a run -/
structure Post where
  n : Cs → Prop
  r : Rn → Prop
def OS.wp (Q : Post) : OS → Prop
  | .nx e => Q.n e
  | .ct e => Q.n e
  | .rt r => Q.r r
  | _ => False
theorem wp_nx {Q : Post} (e : Cs) : OS.wp Q (.nx e) = Q.n e := rfl
theorem wp_ct {Q : Post} (e : Cs) : OS.wp Q (.ct e) = Q.n e := rfl
theorem wp_rt {Q : Post} (e : Rn) : OS.wp Q (.rt e) = Q.r e := rfl
/-- a loop with an account of the items passed; it may give back on the way -/
theorem forL_wp {Q : Post} {t : D → Cs → Option Cs} {b : Cs → OS} (I : List D → List D → Cs → Prop) :
    ∀ (post pre : List D) (env0 : Cs), I pre post env0 →
    (∀ pre d post env, I pre (d :: post) env → ∃ env1, t d env = some env1 ∧ OS.wp ⟨fun env2 => I (pre ++ [d]) post env2, Q.r⟩ (b env1)) →
    OS.wp ⟨fun env' => I (pre ++ post) [] env', Q.r⟩ (forL t b post env0)
  | [], pre, env0, h0, _ => by rw [List.append_nil]; exact h0
  | d :: post, pre, env0, h0, h => by
    obtain ⟨env1, e1, e2⟩ := h pre d post env0 h0
    unfold forL
    rw [e1]
    dsimp only
    have go : ∀ env2, I (pre ++ [d]) post env2 → OS.wp ⟨fun env' => I (pre ++ d :: post) [] env', Q.r⟩ (forL t b post env2) := fun env2 h2 => by
      have := forL_wp (Q := Q) I post (pre ++ [d]) env2 h2 h
      rwa [List.append_assoc] at this
    cases q : b env1 with
    | nx e => rw [q] at e2; exact go e e2
    | ct e => rw [q] at e2; exact go e e2
    | rt r => rw [q] at e2; exact e2
    | bk e => rw [q] at e2; exact e2.elim
    | stuck => rw [q] at e2; exact e2.elim
    | exc c => rw [q] at e2; exact e2.elim
/-- a loop over a list with an encoding; the relation sees the items passed and those to come -/
theorem for_wp {β : Type} {Q : Post} {t : D → Cs → Option Cs} {b : Cs → OS} (enc : β → D) (Rl : List β → List β → Cs → Prop) (xs : List β) (env0 : Cs) (h0 : Rl [] xs env0)
    (h : ∀ (pre : List β) (x : β) (post : List β) (env : Cs), xs = pre ++ x :: post → Rl pre (x :: post) env → ∃ env1, t (enc x) env = some env1 ∧ OS.wp ⟨fun env2 => Rl (pre ++ [x]) post env2, Q.r⟩ (b env1))
    (hn : ∀ env', Rl xs [] env' → Q.n env') : OS.wp Q (forL t b (xs.map enc) env0) := by
  suffices h : ∀ (post pre : List β) (env0 : Cs), xs = pre ++ post → Rl pre post env0 → OS.wp Q (forL t b (post.map enc) env0) from h xs [] env0 rfl h0
  intro post
  induction post with
  | nil => intro pre env0 e hR; rw [List.append_nil] at e; subst e; exact hn _ hR
  | cons x post ih =>
    intro pre env0 e hR
    obtain ⟨env1, e1, e2⟩ := h pre x post env0 e hR
    rw [List.map_cons]
    unfold forL
    rw [e1]
    dsimp only
    have go : ∀ env2, Rl (pre ++ [x]) post env2 → OS.wp Q (forL t b (post.map enc) env2) := fun env2 h2 => ih (pre ++ [x]) env2 (by rw [e, List.append_assoc]; rfl) h2
    cases q : b env1 with
    | nx e => rw [q] at e2; exact go e e2
    | ct e => rw [q] at e2; exact go e e2
    | rt r => rw [q] at e2; exact e2
    | bk e => rw [q] at e2; exact e2.elim
    | stuck => rw [q] at e2; exact e2.elim
    | exc c => rw [q] at e2; exact e2.elim
theorem wp_mono {Q Q' : Post} {o : OS} (h : OS.wp Q o) (hn : ∀ e, Q.n e → Q'.n e) (hr : ∀ r, Q.r r → Q'.r r) : OS.wp Q' o := by
  cases o with
  | nx e => exact hn e h
  | ct e => exact hn e h
  | rt r => exact hr r h
  | _ => exact h.elim
theorem wp_seq {Q : Post} {o : OS} {h : Cs → OS} {M : Cs → Prop} (nc : ∀ e, o ≠ .ct e) (h1 : OS.wp ⟨M, Q.r⟩ o) (h2 : ∀ e, M e → OS.wp Q (h e)) : OS.wp Q (o.seq h) := by
  cases o with
  | nx e => exact h2 e h1
  | ct e => exact absurd rfl (nc e)
  | rt r => exact h1
  | _ => exact h1.elim
theorem forL_nc {t : D → Cs → Option Cs} {b : Cs → OS} : ∀ (ds : List D) (env e : Cs), forL t b ds env ≠ .ct e
  | [], _, _ => fun h => by cases h
  | d :: ds, env, e => fun h => by
    unfold forL at h
    split at h
    · cases h
    · split at h
      all_goals first | cases h | exact forL_nc ds _ _ h
/-- a loop, and what comes after it -/
theorem forseq_wp {β : Type} {Q : Post} {t : D → Cs → Option Cs} {b h : Cs → OS} (enc : β → D) (Rl : List β → List β → Cs → Prop) (xs : List β) (env0 : Cs) (h0 : Rl [] xs env0)
    (hs : ∀ (pre : List β) (x : β) (post : List β) (env : Cs), xs = pre ++ x :: post → Rl pre (x :: post) env → ∃ env1, t (enc x) env = some env1 ∧ OS.wp ⟨fun env2 => Rl (pre ++ [x]) post env2, Q.r⟩ (b env1))
    (hk : ∀ env', Rl xs [] env' → OS.wp Q (h env')) : OS.wp Q (seqX h (forL t b (xs.map enc) env0)) :=
  wp_seq (M := fun e => Rl xs [] e) (fun e => forL_nc _ _ e) (for_wp (Q := ⟨fun e => Rl xs [] e, Q.r⟩) enc Rl xs env0 h0 hs fun _ h => h) hk
theorem fin_of {o : OS} {r : Rn} (h : OS.wp ⟨fun _ => Rn.f .non = r, fun r' => r' = r⟩ o) (nc : ∀ e, o ≠ .ct e) : finR o = .ret r := by
  cases o with
  | nx e => exact congrArg OR.ret h
  | ct e => exact absurd rfl (nc e)
  | rt r' => exact congrArg OR.ret h
  | _ => exact h.elim
theorem fin_for {β : Type} {r : Rn} {t : D → Cs → Option Cs} {b h : Cs → OS} (enc : β → D) (Rl : List β → List β → Cs → Prop) (xs : List β) (env0 : Cs) (h0 : Rl [] xs env0)
    (hs : ∀ (pre : List β) (x : β) (post : List β) (env : Cs), xs = pre ++ x :: post → Rl pre (x :: post) env → ∃ env1, t (enc x) env = some env1 ∧ OS.wp ⟨fun env2 => Rl (pre ++ [x]) post env2, fun r' => r' = r⟩ (b env1))
    (hk : ∀ env', Rl xs [] env' → finR (h env') = .ret r) : finR (seqX h (forL t b (xs.map enc) env0)) = .ret r := by
  have := for_wp (Q := ⟨fun e => Rl xs [] e, fun r' => r' = r⟩) enc Rl xs env0 h0 hs fun _ h => h
  cases q : forL t b (xs.map enc) env0 with
  | nx e => rw [q] at this; exact hk e this
  | ct e => exact absurd q (forL_nc _ _ e)
  | rt r' => rw [q] at this; exact congrArg OR.ret this
  | bk _ => rw [q] at this; exact this.elim
  | stuck => rw [q] at this; exact this.elim
  | exc _ => rw [q] at this; exact this.elim
/-- a loop that runs through, and what a def says after it -/
theorem fin_exists {β : Type} {Pr : OR → Prop} {t : D → Cs → Option Cs} {b h : Cs → OS} (enc : β → D) (Rl : List β → List β → Cs → Prop) (xs : List β) (env0 : Cs) (h0 : Rl [] xs env0)
    (hs : ∀ (pre : List β) (x : β) (post : List β) (env : Cs), xs = pre ++ x :: post → Rl pre (x :: post) env → ∃ env1, t (enc x) env = some env1 ∧ OS.wp ⟨fun env2 => Rl (pre ++ [x]) post env2, fun _ => False⟩ (b env1))
    (hk : ∀ env', Rl xs [] env' → Pr (finR (h env'))) : Pr (finR (seqX h (forL t b (xs.map enc) env0))) := by
  have := for_wp (Q := ⟨fun e => Rl xs [] e, fun _ => False⟩) enc Rl xs env0 h0 hs fun _ h => h
  cases q : forL t b (xs.map enc) env0 with
  | nx e => rw [q] at this; exact hk e this
  | ct e => exact absurd q (forL_nc _ _ e)
  | rt r' => rw [q] at this; exact this.elim
  | bk _ => rw [q] at this; exact this.elim
  | stuck => rw [q] at this; exact this.elim
  | exc _ => rw [q] at this; exact this.elim
/-! one turn of a loop -/
def OS.lp : OS → (Cs → OS) → OS
  | .nx e, h => h e
  | .ct e, h => h e
  | .bk e, _ => .nx e
  | .rt r, _ => .rt r
  | .stuck, _ => .stuck
  | .exc c, _ => .exc c
def lpX (h : Cs → OS) (o : Tg h OS) : OS := OS.lp o h
theorem lp_X (o : OS) (h : Cs → OS) : OS.lp o h = lpX h o := rfl
theorem lp_nx (e : Cs) (h : Cs → OS) : lpX h (.nx e) = h e := rfl
theorem lp_ct (e : Cs) (h : Cs → OS) : lpX h (.ct e) = h e := rfl
theorem lp_rt (r : Rn) (h : Cs → OS) : lpX h (.rt r) = .rt r := rfl
def tgt : Option Cs → (Cs → OS) → OS
  | some e, h => h e
  | none, _ => .stuck
def tgtX (h : Cs → OS) (o : Tg h (Option Cs)) : OS := tgt o h
theorem tgt_X (o : Option Cs) (h : Cs → OS) : tgt o h = tgtX h o := rfl
theorem tgt_some (e : Cs) (h : Cs → OS) : tgtX h (some e) = h e := rfl
theorem for_cons (t : D → Cs → Option Cs) (b : Cs → OS) (d : D) (ds : List D) (env : Cs) : forL t b (d :: ds) env = tgt (t d env) fun env1 => (b env1).lp fun env2 => forL t b ds env2 := by
  rw [forL]
  unfold tgt
  cases t d env with
  | none => rfl
  | some env1 => dsimp only; unfold OS.lp; cases b env1 <;> rfl
theorem for_nil (t : D → Cs → Option Cs) (b : Cs → OS) (env : Cs) : forL t b [] env = .nx env := rfl
theorem e_tTp (u : List D → Cs → Option Cs) (ds : List D) (env : Cs) : tTp u (.tup ds) env = u ds env := rfl
theorem e_tCons (t : D → Cs → Option Cs) (u : List D → Cs → Option Cs) (d : D) (ds : List D) (env : Cs) : tCons' t u (d :: ds) env = (t d env).bind fun env1 => u ds env1 := rfl
theorem e_tNil (env : Cs) : tNil' [] env = some env := rfl
/-- a list made of a list by one expression -/
theorem lcL_one {β : Type} (enc : β → D) (f : β → D) (xs : List β) {i : Nat} {g : Cs → Out D} {env : Cs} (hf : freeAt env [i] = true) (hb : backE env (env.set i .un) [i] = env)
    (h : ∀ x ∈ xs, g (env.set i (.frz (enc x))) = .ok (f x) (env.set i (.frz (enc x)))) (hz : xs.length ≤ 16777216) : lcL [i] (tN i) (noE gYes) (noE g) (xs.map enc) env [] = .ok (.tmp (.lst (xs.map f))) env := by
  have e : xs.map f = xs.filterMap fun x => some (f x) := by induction xs with
    | nil => rfl
    | cons x xs ih => rw [List.map_cons, List.filterMap_cons, ih (fun y hy => h y (List.mem_cons_of_mem _ hy)) (by rw [List.length_cons] at hz; omega)]
  rw [e]
  refine lcL_map enc (fun x => some (f x)) hf xs (fun x hx => ?_) [] (by simpa using hz)
  refine ⟨env.set i (.frz (enc x)), env.set i (.frz (enc x)), ?_, rfl, env.set i (.frz (enc x)), ?_, ?_⟩
  · show some ((env.set i .un).set i _) = _
    rw [List.set_set]
  · rw [v_noE, h x hx]; rfl
  · have hb : (env.set i .un).set i (env.getD i .un) = env := hb
    show (env.set i _).set i (env.getD i .un) = env
    rw [List.set_set] at hb ⊢
    exact hb
end DL

namespace DL
open PySem PySem.Spec PyProof.Rows L2
variable [TabCtx]
local macro_rules | `(tactic| walk_at "ev") => `(tactic| simp only [e_runF, lp_nx, lp_ct, lp_rt, tgt_some, for_cons, for_nil, e_tN, e_tTp, e_tCons, e_tNil, Option.bind_some, fin_rt, fin_nx, fin_exc, wp_nx, wp_ct, wp_rt, bind_ok, bind_exc, bs_ok, bs_exc, seq_nx, seq_rt, seq_exc, seq_ct, seq_bk, e_sSeq, e_sNx, e_sCt, e_sBk, e_gNl, nlK_frz, nlK_tmp, settle_frz, settle_tmp, e_gSet, val_frz, val_tmp, e_gPk, e_gC, e_gB, bK_bl, e_gNot, e_gAnd, e_gOr, e_gAndV, e_gOrV, e_gNotV, e_gIf, e_sIf, e_g1, e_g2, outR_f, outR_t, e_gCh, chK_int, chK2_int, orK_ret, orK_exc, e_gCall, e_gaN, e_gaC, e_gTp, e_gLs, e_gDn, e_sSet, e_sEx, e_sRet, ret_frz, ret_tmp, cell_frz, cell_tmp, e_sPar2, e_sPar3, e_sFor, e_gLc, e_giA, itK_lst, itK_tup, itK_dK, itK_str, e_giR1, r1K_int, e_giR2, r2K_int, e_giE, enK_lst, e_sPut, e_sAsg, e_gYes, e_goN, e_goS, goK_int, e_gSl, v_gV, vV_f, vV_o, v_set, vS_o, v_nl, v_val, vL_o, v_pk, vP_s, v_k1, v1_s, v_k2, v2_s, v_ret, vR_o, v_app, vA_o, v_appK, vA2_o, v_ext, vE_o, v_extK, vE2_o, v_get, vG_K, v_getK, vG2_i, vG2_t, v_put1, vU_o, v_put2, vU2_i, vU2_t, v_sl, vC_l, v_noE, nE_ok, e_add, e_sub, e_neg, e_cmp, e_ltI, e_eqI, e_neI, e_eqS, e_neS, e_ix0, e_ix1, e_ix2, e_ix3, e_lenL, e_lenT, e_lenC, e_lenK, e_max2, e_min2, e_tupL, e_lstT, e_lstL, e_revL, isi_int_int, isi_bool_int, isi_str_str, isi_tup, isi_lst, isi_dict, List.getElem?_cons_zero, List.getElem?_cons_succ, List.set_cons_zero, List.set_cons_succ, List.map_cons, List.map_nil, List.cons_append, List.nil_append, List.length_cons, List.length_nil, List.replicate_succ, List.replicate_zero, Nat.reduceAdd, Nat.reduceSub, Nat.reduceEqDiff, ↓reduceIte, Bool.not_true, Bool.not_false, fLe, fLt, fGe, fGt, Bool.false_eq_true, Nat.reduceLeDiff, Int.ofNat_eq_coe, Int.cast_ofNat_Int, decide_true, decide_false])
local macro_rules | `(tactic| push_cast [$ls,*]) => `(tactic| simp only [e_runF, lp_nx, lp_ct, lp_rt, tgt_some, for_cons, for_nil, e_tN, e_tTp, e_tCons, e_tNil, Option.bind_some, fin_rt, fin_nx, fin_exc, wp_nx, wp_ct, wp_rt, bind_ok, bind_exc, bs_ok, bs_exc, seq_nx, seq_rt, seq_exc, seq_ct, seq_bk, e_sSeq, e_sNx, e_sCt, e_sBk, e_gNl, nlK_frz, nlK_tmp, settle_frz, settle_tmp, e_gSet, val_frz, val_tmp, e_gPk, e_gC, e_gB, bK_bl, e_gNot, e_gAnd, e_gOr, e_gAndV, e_gOrV, e_gNotV, e_gIf, e_sIf, e_g1, e_g2, outR_f, outR_t, e_gCh, chK_int, chK2_int, orK_ret, orK_exc, e_gCall, e_gaN, e_gaC, e_gTp, e_gLs, e_gDn, e_sSet, e_sEx, e_sRet, ret_frz, ret_tmp, cell_frz, cell_tmp, e_sPar2, e_sPar3, e_sFor, e_gLc, e_giA, itK_lst, itK_tup, itK_dK, itK_str, e_giR1, r1K_int, e_giR2, r2K_int, e_giE, enK_lst, e_sPut, e_sAsg, e_gYes, e_goN, e_goS, goK_int, e_gSl, v_gV, vV_f, vV_o, v_set, vS_o, v_nl, v_val, vL_o, v_pk, vP_s, v_k1, v1_s, v_k2, v2_s, v_ret, vR_o, v_app, vA_o, v_appK, vA2_o, v_ext, vE_o, v_extK, vE2_o, v_get, vG_K, v_getK, vG2_i, vG2_t, v_put1, vU_o, v_put2, vU2_i, vU2_t, v_sl, vC_l, v_noE, nE_ok, e_add, e_sub, e_neg, e_cmp, e_ltI, e_eqI, e_neI, e_eqS, e_neS, e_ix0, e_ix1, e_ix2, e_ix3, e_lenL, e_lenT, e_lenC, e_lenK, e_max2, e_min2, e_tupL, e_lstT, e_lstL, e_revL, isi_int_int, isi_bool_int, isi_str_str, isi_tup, isi_lst, isi_dict, List.getElem?_cons_zero, List.getElem?_cons_succ, List.set_cons_zero, List.set_cons_succ, List.map_cons, List.map_nil, List.cons_append, List.nil_append, List.length_cons, List.length_nil, List.replicate_succ, List.replicate_zero, Nat.reduceAdd, Nat.reduceSub, Nat.reduceEqDiff, ↓reduceIte, Bool.not_true, Bool.not_false, fLe, fLt, fGe, fGt, Bool.false_eq_true, Nat.reduceLeDiff, Int.ofNat_eq_coe, Int.cast_ofNat_Int, decide_true, decide_false, $ls,*])
/-! ### plain facts on sorting, membership, tallies -/
theorem pyL_int : ∀ ns : List Int, pyL (ns.map D.int) = some (ns.map PyData.int)
  | [] => rfl
  | n :: ns => by rw [List.map_cons, pyL, pyL_int ns]; rfl
theorem pyL_str : ∀ ns : List Str, pyL (ns.map D.str) = some (ns.map PyData.str)
  | [] => rfl
  | n :: ns => by rw [List.map_cons, pyL, pyL_str ns]; rfl
theorem canSort_int (ns : List Int) : canSort (ns.map PyData.int) = true := by
  unfold canSort alikeB sortB depOk
  rw [Bool.and_eq_true, Bool.and_eq_true, Bool.or_eq_true]
  refine ⟨⟨?_, .inr ?_⟩, ?_⟩
  · rw [List.all_map, List.all_eq_true]
    intro x _
    show ((ns.map PyData.int).all fun q => PySem.W.alike (.int x) q) = true
    rw [List.all_map, List.all_eq_true]
    intro y _
    simp [PySem.W.alike]
  · rw [List.all_map, List.all_eq_true]
    intro x _
    rfl
  · rw [List.all_map, List.all_eq_true]
    intro x _
    simp [PyData.depth]
theorem canSort_str (ns : List Str) : canSort (ns.map PyData.str) = true := by
  unfold canSort alikeB sortB depOk
  rw [Bool.and_eq_true, Bool.and_eq_true, Bool.or_eq_true]
  refine ⟨⟨?_, .inr ?_⟩, ?_⟩
  · rw [List.all_map, List.all_eq_true]
    intro x _
    show ((ns.map PyData.str).all fun q => PySem.W.alike (.str x) q) = true
    rw [List.all_map, List.all_eq_true]
    intro y _
    simp [PySem.W.alike]
  · rw [List.all_map, List.all_eq_true]
    intro x _
    rfl
  · rw [List.all_map, List.all_eq_true]
    intro x _
    simp [PyData.depth]
def ordI (ns : List Int) : List Int := ns.mergeSort fun a b => PySem.W.dataLe false pyD (.int a) (.int b)
def ordT (ns : List Str) : List Str := ns.mergeSort fun a b => PySem.W.dataLe false pyD (.str a) (.str b)
theorem ordI_perm (ns : List Int) : (ordI ns).Perm ns := List.mergeSort_perm _ _
theorem ordT_perm (ns : List Str) : (ordT ns).Perm ns := List.mergeSort_perm _ _
theorem e_srtI (ns : List Int) : srtItems (ns.map D.int) = some (.t (.lst ((ordI ns).map .int))) := by
  unfold srtItems
  rw [pyL_int]
  dsimp only
  rw [if_pos (canSort_int ns)]
  unfold sortD ordI
  rw [PySem.W.sort_maps D.int (fun _ _ _ _ => rfl)]
theorem e_srtT (ns : List Str) : srtItems (ns.map D.str) = some (.t (.lst ((ordT ns).map .str))) := by
  unfold srtItems
  rw [pyL_str]
  dsimp only
  rw [if_pos (canSort_str ns)]
  unfold sortD ordT
  rw [PySem.W.sort_maps D.str (fun _ _ _ _ => rfl)]
theorem e_sortedI (ns : List Int) : sSorted (.lst (ns.map D.int)) = some (.t (.lst ((ordI ns).map .int))) := e_srtI ns
theorem e_sortedT (ns : List Str) : sSorted (.lst (ns.map D.str)) = some (.t (.lst ((ordT ns).map .str))) := e_srtT ns
theorem flatL_str : ∀ ns : List Str, flatL (ns.map D.str) = some (ns.map V.str)
  | [] => rfl
  | n :: ns => by rw [List.map_cons, flatL, flatL_str ns]; rfl
theorem flatL_int : ∀ ns : List Int, flatL (ns.map D.int) = some (ns.map V.int)
  | [] => rfl
  | n :: ns => by rw [List.map_cons, flatL, flatL_int ns]; rfl
theorem inSeq_str (n : Str) (ns : List Str) : inSeq (.str n) (ns.map D.str) = some (decide (n ∈ ns)) := by
  unfold inSeq
  rw [flatL_str]
  show some (inV (.str n) (ns.map V.str)) = _
  congr 1
  unfold inV
  rw [List.any_map, Bool.eq_iff_iff, List.any_eq_true, decide_eq_true_eq]
  constructor
  · rintro ⟨x, hx, e⟩
    have e : eqV (.str x) (.str n) = true := e
    have : x = n := by simpa [eqV] using e
    exact this ▸ hx
  · intro h
    exact ⟨n, h, by show eqV (.str n) (.str n) = true; simp [eqV]⟩
theorem inSeq_int (n : Int) (ns : List Int) : inSeq (.int n) (ns.map D.int) = some (decide (n ∈ ns)) := by
  unfold inSeq
  rw [flatL_int]
  show some (inV (.int n) (ns.map V.int)) = _
  congr 1
  unfold inV
  rw [List.any_map, Bool.eq_iff_iff, List.any_eq_true, decide_eq_true_eq]
  constructor
  · rintro ⟨x, hx, e⟩
    have e : eqV (.int x) (.int n) = true := e
    have : x = n := by simpa [eqV] using e
    exact this ▸ hx
  · intro h
    exact ⟨n, h, by show eqV (.int n) (.int n) = true; simp [eqV]⟩
theorem e_inT (n : Str) (ns : List Str) : sIn (.str n) (.lst (ns.map D.str)) = some (.f (.bl (decide (n ∈ ns)))) := by show (inSeq _ _).map _ = _; rw [inSeq_str]; rfl
theorem e_notInT (n : Str) (ns : List Str) : sNotIn (.str n) (.lst (ns.map D.str)) = some (.f (.bl (!decide (n ∈ ns)))) := by show (inSeq _ _).map _ = _; rw [inSeq_str]; rfl
theorem e_inI (n : Int) (ns : List Int) : sIn (.int n) (.lst (ns.map D.int)) = some (.f (.bl (decide (n ∈ ns)))) := by show (inSeq _ _).map _ = _; rw [inSeq_int]; rfl
theorem e_notInI (n : Int) (ns : List Int) : sNotIn (.int n) (.lst (ns.map D.int)) = some (.f (.bl (!decide (n ∈ ns)))) := by show (inSeq _ _).map _ = _; rw [inSeq_int]; rfl
/-! a dict from texts to sums -/
def encT (ts : List (Str × Int)) : List (Key × D) := ts.map fun p => (.inr p.1, .int p.2)
def valS (ts : List (Str × Int)) (m : Str) : Int := ((ts.find? fun p => decide (p.1 = m)).map (·.2)).getD 0
def bumpS (ts : List (Str × Int)) (n : Str) (v : Int) : List (Str × Int) :=
  if n ∈ ts.map (·.1) then ts.map fun p => if p.1 = n then (p.1, v) else p else ts ++ [(n, v)]
def tot (ps : List (Str × Int)) (m : Str) : Int := (ps.map fun p => if p.1 = m then p.2 else 0).sum
structure Tal (ts ps : List (Str × Int)) : Prop where
  val : ∀ m, valS ts m = tot ps m
  mem : ∀ m, m ∈ ts.map (·.1) ↔ m ∈ ps.map (·.1)
  nd : (ts.map (·.1)).Nodup
  len : ts.length ≤ ps.length
theorem Tal.nil : Tal [] [] := ⟨fun _ => rfl, fun _ => Iff.rfl, List.nodup_nil, Nat.le_refl _⟩
theorem tot_app (ps qs : List (Str × Int)) (m : Str) : tot (ps ++ qs) m = tot ps m + tot qs m := by unfold tot; rw [List.map_append, List.sum_append]
theorem tot_cons (p : Str × Int) (qs : List (Str × Int)) (m : Str) : tot (p :: qs) m = (if p.1 = m then p.2 else 0) + tot qs m := rfl
theorem tot_nil (m : Str) : tot [] m = 0 := rfl
theorem look_T (ts : List (Str × Int)) (m : Str) : look (encT ts) (.inr m) = if m ∈ ts.map (·.1) then some (.int (valS ts m)) else none := by
  unfold look encT valS
  induction ts with
  | nil => rfl
  | cons p ts ih =>
    rw [List.map_cons, List.find?_cons, List.find?_cons]
    by_cases h : p.1 = m
    · simp [h]
    · have h1 : decide (((Sum.inr p.1 : Key), D.int p.2).1 = Sum.inr m) = false := by simp [h]
      have h2 : decide (p.1 = m) = false := by simp [h]
      dsimp only at h1 ⊢
      rw [h1, h2]
      dsimp only
      rw [ih]
      have h3 : m ≠ p.1 := fun z => h z.symm
      rw [List.map_cons]
      by_cases w : m ∈ ts.map (·.1)
      · rw [if_pos w, if_pos (List.mem_cons_of_mem _ w)]
      · rw [if_neg w, if_neg (fun z => (List.mem_cons.mp z).elim h3 w)]
theorem val_none {ts : List (Str × Int)} {m : Str} (h : m ∉ ts.map (·.1)) : valS ts m = 0 := by
  unfold valS
  rw [List.find?_eq_none.mpr]
  · rfl
  · intro p hp
    simp only [decide_eq_true_eq]
    exact fun z => h (List.mem_map.mpr ⟨p, hp, z⟩)
theorem getT (ts : List (Str × Int)) (m : Str) : (look (encT ts) (.inr m)).getD (.int 0) = .int (valS ts m) := by
  rw [look_T]
  split
  · rfl
  · rename_i h
    rw [val_none h]
    rfl
theorem put_T (ts : List (Str × Int)) (m : Str) (v : Int) : put (encT ts) (.inr m) (.int v) = encT (bumpS ts m v) := by
  unfold put bumpS
  have e : ((encT ts).any fun e => decide (e.1 = Sum.inr m)) = decide (m ∈ ts.map (·.1)) := by
    rw [Bool.eq_iff_iff, List.any_eq_true, decide_eq_true_eq]
    unfold encT
    constructor
    · rintro ⟨x, hx, e⟩
      obtain ⟨p, hp, rfl⟩ := List.mem_map.mp hx
      have : p.1 = m := by simpa using e
      exact List.mem_map.mpr ⟨p, hp, this⟩
    · intro h
      obtain ⟨p, hp, rfl⟩ := List.mem_map.mp h
      exact ⟨_, List.mem_map.mpr ⟨p, hp, rfl⟩, by simp⟩
  rw [e]
  by_cases h : m ∈ ts.map (·.1)
  · rw [if_pos (decide_eq_true h), if_pos h]
    unfold encT
    rw [List.map_map, List.map_map]
    refine List.map_congr_left fun p _ => ?_
    show (if (Sum.inr p.1 : Key) = Sum.inr m then ((Sum.inr p.1 : Key), D.int v) else (Sum.inr p.1, D.int p.2)) = _
    by_cases q : p.1 = m
    · simp [q]
    · simp [q]
  · rw [if_neg (by simpa using h), if_neg h]
    unfold encT
    rw [List.map_append]
    rfl
theorem bump_keys (ts : List (Str × Int)) (n : Str) (v : Int) : (bumpS ts n v).map (·.1) = if n ∈ ts.map (·.1) then ts.map (·.1) else ts.map (·.1) ++ [n] := by
  unfold bumpS
  split
  · rw [List.map_map]
    refine List.map_congr_left fun p _ => ?_
    show (if p.1 = n then (p.1, v) else p).1 = p.1
    split <;> rfl
  · rw [List.map_append]
    rfl
theorem bump_val (ts : List (Str × Int)) (n m : Str) (v : Int) : valS (bumpS ts n v) m = if m = n then v else valS ts m := by
  unfold bumpS
  split
  · rename_i h
    induction ts with
    | nil => cases h
    | cons p ts ih =>
      unfold valS at ih ⊢
      rw [List.map_cons, List.find?_cons, List.find?_cons]
      by_cases q : p.1 = n
      · rw [if_pos q]
        by_cases w : m = n
        · subst w; simp [q]
        · have w' : ¬ n = m := fun z => w z.symm
          subst q
          simp only [w, w', decide_false]
          clear ih h
          induction ts with
          | nil => simp [w]
          | cons p' ts ih =>
            rw [List.map_cons, List.find?_cons, List.find?_cons]
            by_cases q' : p'.1 = p.1
            · rw [if_pos q']
              simp only [q', w', decide_false]
              simpa [w] using ih
            · rw [if_neg q']
              by_cases q2 : p'.1 = m
              · simp [q2, w]
              · simp only [q2, decide_false]
                simpa [w] using ih
      · rw [if_neg q]
        have hm : n ∈ ts.map (·.1) := by
          rcases List.mem_cons.mp h with z | z
          · exact absurd z.symm q
          · exact z
        by_cases q2 : p.1 = m
        · have : m ≠ n := fun z => q (q2.trans z)
          simp [q2, this]
        · simp only [q2, decide_false]
          exact ih hm
  · rename_i h
    unfold valS
    rw [List.find?_append]
    by_cases w : m = n
    · subst w
      have : (ts.find? fun p => decide (p.1 = m)) = none := List.find?_eq_none.mpr fun p hp => by
        simp only [decide_eq_true_eq]
        exact fun z => h (List.mem_map.mpr ⟨p, hp, z⟩)
      rw [this]
      simp
    · have w' : ¬ n = m := fun z => w z.symm
      simp [w, w']
theorem Tal.bump {ts ps : List (Str × Int)} (T : Tal ts ps) (n : Str) (v : Int) : Tal (bumpS ts n (valS ts n + v)) (ps ++ [(n, v)]) where
  val m := by
    rw [bump_val, tot_app, tot_cons, tot_nil, ← T.val m]
    by_cases h : m = n
    · subst h; simp
    · have h' : ¬ n = m := fun z => h z.symm
      simp [h, h']
  mem m := by
    rw [bump_keys, List.map_append, List.mem_append, ← T.mem m]
    split
    · rename_i h
      constructor
      · exact .inl
      · rintro (z | z)
        · exact z
        · rw [List.map_singleton, List.mem_singleton] at z; exact z ▸ h
    · rw [List.mem_append]
      rfl
  nd := by
    rw [bump_keys]
    split
    · exact T.nd
    · rename_i h
      exact List.nodup_append.mpr ⟨T.nd, by simp, fun a ha b hb e => h (by rw [List.mem_singleton] at hb; exact (e.trans hb) ▸ ha)⟩
  len := by
    have := T.len
    have e := congrArg List.length (bump_keys ts n (valS ts n + v))
    rw [List.length_map] at e
    rw [e, List.length_append, List.length_singleton]
    split
    · rw [List.length_map]; omega
    · rw [List.length_append, List.length_map, List.length_singleton]; omega
end DL

namespace DL
open PySem PySem.Spec PyProof.Rows L2
variable [TabCtx]
/-! ### a law's end -/
theorem fn_at {P : Program} {w : World} {K : PySem.W.Frag} {mg : Str → Option Value} {base : Heap} {ca : Str → Addr} {x qual : Str} {params : Arguments} {body : List Stmt} {scope : Scope} {f : Addr} {fd : FuncData} {N ps : List Str} {k : Nat} (Fd : FunD K x qual params body scope [] [] f fd) (S : FnScope N ps scope) (g : Cs → OS)
    (h : ∀ (cdv : Value) (A : Around) (outer : List Env) (s : Shared) (H : Hp) (E : XK), Room k (A.deeper (envOfC qual scope s.heap.objs.size f cdv)) → DB (cxOf (L2N.CX P w) P w K mg base N qual scope f cdv A outer s H E) (WE ca E) body g) :
    FnOk P w K mg base (L2N.CX P w) (k + 1) f fd ps (spD K ca ps.length (runF N.length g)) := by
  refine Fd.ok S (fun vs H Q E h => ?_) (fun cdv A outer s H vs Q E hr hsp => ?_)
  · obtain ⟨F, ds, _, t, hn, _⟩ := h
    rw [t.length, hn]
  · obtain ⟨F, ds, sF, t, hn, hq⟩ := hsp
    refine ⟨_, pss_sem, h cdv A outer s H E hr H F _ F _ H _ (start_rs sF t rfl) ?_⟩
    unfold runF at hq
    cases q : g (ds.map Cell.frz ++ List.replicate (N.length - ds.length) .un) with
    | stuck => rw [q] at hq; exact hq.elim
    | exc c => rw [q] at hq; exact hq
    | nx env => rw [q] at hq; exact fun F' σ' H' R' => hq .non F' H' R'.ext0 rfl
    | rt r => rw [q] at hq; exact hq
    | bk env => rw [q] at hq; exact hq.elim
    | ct env => rw [q] at hq; exact hq.elim
/-- a heap without its tables -/
def noTbl (H : Hp) : Hp := fun b => match H b with
  | some (.tbl _) => none
  | o => o
omit [TabCtx] in
theorem noTbl_at {H : Hp} {b : Addr} {o : HO} (h : H b = some o) (n : ∀ ps, o ≠ .tbl ps) : noTbl H b = some o := by
  unfold noTbl
  rw [h]
  split
  · rename_i ps e
    exact absurd (Option.some.inj e) (n ps)
  · rfl
omit [TabCtx] in
theorem noTbl_same (H : Hp) : Same (noTbl H) H := fun b o e => by
  unfold noTbl at e
  split at e
  · cases e
  · exact e
omit [TabCtx] in
theorem noTbl_no (H : Hp) : NoTb (noTbl H) := fun b ps e => by
  unfold noTbl at e
  split at e
  · cases e
  · rename_i n
    exact n ps e
omit [TabCtx] in
theorem noTbl_seq {K : PySem.W.Frag} {H : Hp} {a : Addr} {xs : List V} (h : SqL K H a xs) : SqL K (noTbl H) a xs := by
  rcases h with (h | ⟨o, h⟩) | h
  · exact .inl (.inl (noTbl_at h (by intro _ z; cases z)))
  · exact .inl (.inr ⟨o, noTbl_at h (by intro _ z; cases z)⟩)
  · exact .inr h
/-- what is known at the head's end: the defs' code objects and tables cs; T: the tables, each with its lambdas' name -/
structure AtHead (w : World) (K : PySem.W.Frag) (h : Heap) (cs : List (Addr × Addr)) (T : List (Addr × Str)) : Prop where
  kin : K.In h
  emp : ∀ p ∈ cs, h.get? p.2 = some { cls := .none, data := .fields #[] }
  out : ∀ p ∈ cs, K.lookup p.2 = none
  hd : ∀ p ∈ cs, PySem.W.CodeHd h p.1 p.2
  tab : ∀ p ∈ T, ∃ c, (c, p.1) ∈ cs
omit [TabCtx] in
theorem law_end {l : PySem.W.OpenLaw} {n k : Nat} {q : Program} {loose : List Str} {XP : (Str → Option Value) → Heap → Prop} {YP : World → Heap → Prop} {d : DefRec} {x : Str} {sem : List D → OR}
    (hn : l.most = some n) (hn2 : n ≤ sizeLine) (hdf : d.params.defaults = []) (hr : Room k callerA) (hs : ∀ ns : List Int, ns.length ≤ n → sem [.scr ns] = .ret (.f (.bl true)))
    (G0 : ∀ (w : World) (mg : Str → Option Value) (fa : Addr) (h : Heap), YP w h → h.Ns mainGlobals mg → mg d.name = some (.ref fa) →
      ∃ (K : PySem.W.Frag) (fd : FuncData) (ca : Str → Addr) (cs : List (Addr × Addr)) (T : List (Addr × Str)), AtHead w K h cs T ∧ (∀ (s : Shared) (u : Value), BindsTo s fd ⟨[u], []⟩ [(x, u)]) ∧
        ∀ base : Heap, K.In base → base.Ns mainGlobals mg → (∀ p ∈ cs, LamX.TabB base mg p.1 p.2) → FnOk l.prog w K mg base (L2N.CX l.prog w) k fa fd [x] (@spD ⟨T⟩ K ca 1 sem)) :
    PySem.W.WalkO q loose XP YP l.row.toRowW d [] (fun f vs => PySem.call f vs) := by
  refine LamX.walk_ofTsE (CX := fun w => L2N.CX l.prog w) (x := x) hn hn2 hdf hr (fun w mg fa h yp g at_ => ?_) (fun w H s e s' z => ?_)
  · obtain ⟨K, fd, ca, cs, T, A, bi, ok⟩ := G0 w mg fa h yp g at_
    refine ⟨K, A.kin, fd, cs, _, A.emp, A.out, A.hd, bi, fun H a ns len _ hT sq => ?_, ok⟩
    refine ⟨noTbl H, [.scr ns], ⟨noTbl_same H, noTbl_no H, fun p hp => ?_⟩, ⟨_, _, rfl, ⟨a, rfl, noTbl_seq sq⟩, rfl⟩, rfl, ?_⟩
    · obtain ⟨c, hc⟩ := A.tab p hp
      exact LamX.TabS.nil (hT _ hc)
    · rw [hs ns len]
      intro v F' H' _ dv
      exact dv
  · obtain ⟨_, _, _, _, _, _, _, _, _, _, _, _, f⟩ := z
    exact f
end DL

namespace DL
open PySem PySem.Spec PyProof.Rows L2
variable [TabCtx]
section
variable {X : Cx} {W : WN}
/-- x.pop(0) -/
def gPop0 (i : Nat) : Cs → Out RV := fun env => match env[i]? with
  | some (.own (.lst (d :: xs))) => .ok (.frz d) (env.set i (.own (.lst xs)))
  | _ => .stuck
theorem de_pop0 (i : Nat) {x : Str} {px apos cpos p0 : Pos} {j0 : Nat} (hi : X.N[i]? = some x) (hx : Vis X.env.scope x)
    (hbase : attributeBase (.Name x px) "pop" X.env (eval (.Name x px) X.env) = eval (.Name x px) X.env := by rfl)
    (hfew : ((backTo cpos (starEach [.Constant (.int 0) j0 p0] X.env)).all (fun x => !x.1) && (backToKw cpos (keywordEach [] X.env)).all (fun x => x.1.isSome) && decide (([.Constant (.int 0) j0 p0] : List Expr).length + ([] : List Keyword).length + (if ([] : List Keyword).isEmpty then 0 else 1) < 30)) = true := by rfl)
    (hline : (apos.endLine == cpos.line) = true := by rfl) (hs : starEach [.Constant (.int 0) j0 p0] X.env = (false, eval (.Constant (.int 0) j0 p0) X.env) :: starEach [] X.env := by rfl)
    (hd : (x == ("__debug__" : Str)) = false := by decide) (hcd : (x == ("__classdict__" : Str)) = false := by decide) :
    DE X W (.Call (.Attribute (.Name x px) "pop" apos) [.Constant (.int 0) j0 p0] [] cpos) (gPop0 i) := by
  intro H0 F0 ts env F σ H Q R p
  refine PE.sem (pe_bm PySem.F.plainAttrs_list PySem.F.slot_list_pop PySem.F.type_list_pop mt_popAt (pe_var hi hx hd hcd) (pa_cons pe_int pa_nil hs) hbase hfew hline hs) ?_
  unfold gPop0 at p
  split at p
  · rename_i d xs e0
    obtain ⟨a, ea, ⟨vs, h0, t0⟩, nf, n0⟩ := R.cells i _ e0
    obtain ⟨w, r, rfl, dw, t1⟩ := t0
    refine ⟨.ref a, ea, .inl ⟨rfl, _, SqL.of h0⟩, ?_⟩
    refine ⟨a, w :: r, 0, 0, w, rfl, rfl, h0, by decide, by decide, ?_, rfl, ?_⟩
    · simp [seqIndex?]
    · exact p w F _ (R.write e0 ea ⟨_, upd_same, t1⟩) dw (.refl _)
  · exact p.elim
def sPow : D → D → Option Rn
  | .int i, .int j => if 0 ≤ j ∧ j ≤ 64 ∧ i.natAbs < 2 ^ 64 then some (.f (.int (i ^ j.toNat))) else none
  | _, _ => none
theorem v_pow {K : PySem.W.Frag} : V2 K (rI CPow fun i j => .int (i ^ j.toNat)) sPow := by
  intro F H d e v u Q s hd he p
  cases d with
  | int i =>
    cases e with
    | int j =>
      cases hd.int; cases he.int
      dsimp only [sPow] at p
      split at p
      · rename_i z; exact ⟨i, j, rfl, rfl, ⟨z.1, by omega, z.2.2⟩, p.f s rfl⟩
      · exact p.elim
    | _ => exact p.elim
  | _ => exact p.elim
/-! dict(..) -/
def asPairs : List D → Option (List (Key × D))
  | [] => some []
  | .tup [k, d] :: r => match asKey k, asPairs r with
    | some kk, some es => some ((kk, d) :: es)
    | _, _ => none
  | _ => none
def mergeD (es more : List (Key × D)) : List (Key × D) := more.foldl (fun acc e => put acc e.1 e.2) es
def sDict : D → Option Rn
  | .lst xs => match asPairs xs with
    | some es => if sz es.length = true then some (.t (.dK (mergeD [] es))) else none
    | none => none
  | .dK es => some (.t (.dK es))
  | _ => none
theorem asPairs_cons {x : D} {r : List D} {es : List (Key × D)} (h : asPairs (x :: r) = some es) : ∃ k d kk es', x = .tup [k, d] ∧ asKey k = some kk ∧ asPairs r = some es' ∧ es = (kk, d) :: es' := by
  cases x with
  | tup ds =>
    match ds, h with
    | [], h => simp [asPairs] at h
    | [_], h => simp [asPairs] at h
    | _ :: _ :: _ :: _, h => simp [asPairs] at h
    | [k, d], h =>
      unfold asPairs at h
      cases q1 : asKey k with
      | none => rw [q1] at h; cases h
      | some kk =>
        cases q2 : asPairs r with
        | none => rw [q1, q2] at h; cases h
        | some es' =>
          rw [q1, q2] at h
          cases h
          exact ⟨k, d, kk, es', rfl, q1, rfl, rfl⟩
  | _ => simp [asPairs] at h
theorem DvL.pairs {K : PySem.W.Frag} {F H : Hp} (s : Same F H) : ∀ {xs : List D} {vs : List V} {es : List (Key × D)}, DvL K F xs vs → asPairs xs = some es → ∃ (ps : List Addr) (kvs : List (Key × V)), vs = ps.map V.ref ∧ Paired (fun p kv => SqT K H p [kV kv.1, kv.2]) ps kvs ∧ DvK K F es kvs
  | [], _, _, h, e => by cases h; cases e; exact ⟨[], [], rfl, .nil, rfl⟩
  | x :: xs, _, es, ⟨v, r, ev, hv, t⟩, e => by
    subst ev
    obtain ⟨k, d, kk, es', rfl, q1, q2, rfl⟩ := asPairs_cons e
    obtain ⟨ps, kvs, e1, e2, e3⟩ := DvL.pairs s t q2
    obtain ⟨a, ws, ea, fa, ⟨v1, r1, w1, d1, v2, r2, w2, d2, w3⟩⟩ := hv
    subst ea e1 w1 w2 w3
    have ek := d1.key q1
    subst ek
    exact ⟨a :: ps, (kk, v2) :: kvs, rfl, .cons (SqT.of (s _ _ fa)) e2, ⟨v2, kvs, rfl, d2, e3⟩⟩
theorem DvK.merge {K : PySem.W.Frag} {F : Hp} : ∀ {more : List (Key × D)} {mvs : List (Key × V)} {es : List (Key × D)} {kvs : List (Key × V)}, DvK K F more mvs → DvK K F es kvs → DvK K F (mergeD es more) (mergeK kvs mvs)
  | [], _, _, _, h, g => by cases h; exact g
  | (k, d) :: more, _, es, kvs, ⟨v, r, e, h, t⟩, g => by
    subst e
    exact DvK.merge (more := more) (mvs := r) (es := DL.put es k d) (kvs := putK kvs k v) t (g.put h)
theorem PV.newK {K : PySem.W.Frag} {F H : Hp} {es : List (Key × D)} {kvs : List (Key × V)} {Q : VK} (s : Same F H) (p : PV K F H Q (some (.t (.dK es)))) (h : DvK K F es kvs) (a : Addr) (n : H a = none) : Q (.ref a) (upd H a (.dK kvs)) :=
  p a F _ (.tmp s n) (.of n) (by cases q : F a with | none => rfl | some o => have := s _ _ q; rw [n] at this; cases this) ⟨kvs, upd_same, h⟩
def rDictD (K : PySem.W.Frag) : List V → Hp → VK → Prop := fun xs H Q => (∃ (a : Addr) (ps : List Addr) (kvs : List (Key × V)), xs = [.ref a] ∧ SqL K H a (ps.map V.ref) ∧ Paired (fun p kv => SqT K H p [kV kv.1, kv.2]) ps kvs ∧ ∀ p, H p = none → Q (.ref p) (upd H p (.dK (mergeK [] kvs)))) ∨
  ∃ (a : Addr) (kvs : List (Key × V)), xs = [.ref a] ∧ Rd H a (.dK kvs) ∧ ∀ p, H p = none → Q (.ref p) (upd H p (.dK kvs))
theorem cr_dictD (hc : X.calm = true) : CallR X (.type "dict") (rDictD X.K) := by
  intro pins s σ H xs us Q I r h
  rcases h with h | h
  · exact call_dictP hc pins s σ H xs us Q I r h
  · exact call_dictD pins s σ H xs us Q I r h
theorem v_dict {K : PySem.W.Frag} : V1 K (fun v H Q => rDictD K [v] H Q) sDict := by
  intro F H d v Q s hd p
  cases d with
  | lst xs =>
    obtain ⟨a, vs, e1, h1, t1⟩ := hd.lst s
    dsimp only [sDict] at p
    split at p
    · rename_i es q
      split at p
      · obtain ⟨ps, kvs, e2, e3, e4⟩ := t1.pairs s q
        subst e1 e2
        refine .inl ⟨a, ps, kvs, rfl, SqL.of h1, e3, fun b hb => ?_⟩
        exact p.newK s (e4.merge (es := []) (kvs := []) rfl) b hb
      · exact p.elim
    · exact p.elim
  | dK es =>
    obtain ⟨a, kvs, e1, h1, t1⟩ := hd.dK s
    subst e1
    exact .inr ⟨a, kvs, rfl, h1, fun b hb => p.newK s t1 b hb⟩
  | _ => exact p.elim
end
end DL

namespace DL
open PySem PySem.Spec PyProof.Rows L2
variable [TabCtx]
/-! ### sorted, of a dict whose keys are tuples -/
theorem keys_list {es : Array DictEntry} {acc : Array Value} (it : ItemsOf (fun i v => ∃ en : DictEntry, es[i]? = some en ∧ v = en.key) acc es.size) : acc.toList = es.toList.map (·.key) := by
  refine List.ext_getElem (by rw [List.length_map, Array.length_toList, Array.length_toList]; exact it.1) fun j h1 h2 => ?_
  rw [Array.length_toList] at h1
  obtain ⟨en, e1, e2⟩ := it.2 j acc[j] (Array.getElem?_eq_getElem h1)
  rw [Array.getElem_toList, List.getElem_map, Array.getElem_toList, e2]
  have h3 : j < es.size := by rw [← it.1]; exact h1
  rw [Array.getElem?_eq_getElem h3] at e1
  cases e1
  rfl
section
variable {X : Cx}
def kP : Key → PyData
  | .inl i => .int i
  | .inr t => .str t
def keyP (ks : List Key) : PyData := .tuple (ks.map kP)
def rSortT : List V → Hp → VK → Prop := fun xs H Q => ∃ (a : Addr) (kvs : List (List Key × V)), xs = [V.ref a] ∧ Rd H a (.dT kvs) ∧ canSort (kvs.map fun p => keyP p.1) = true ∧
  ∀ (bs : List Addr) (p : Addr), IsKeys H kvs bs → H p = none → Q (.ref p) (upd H p (.lst (sortVP (bs.map V.ref) (kvs.map fun p => keyP p.1))))
theorem dp_keys {H : Hp} : ∀ ks : List Key, DpAll X.K H (ks.map kV) (ks.map kP)
  | [] => .nil
  | .inl i :: ks => .cons (.int i) (dp_keys ks)
  | .inr t :: ks => .cons (.str t) (dp_keys ks)
theorem dp_tups {H : Hp} {kvs : List (List Key × V)} {bs : List Addr} (h : IsKeys H kvs bs) : DpAll X.K H (bs.map V.ref) (kvs.map fun p => keyP p.1) := by
  unfold IsKeys at h
  induction h with
  | nil => exact .nil
  | cons a _ ih => exact .cons (.tup (SqT.of a) (dp_keys _)) ih
theorem cr_sortT (hu : X.A.units + 64 < cLine) (hc : X.calm = true) : CallR X (.builtin "sorted") rSortT := by
  intro pins s σ H xs us Q I r h
  obtain ⟨a, kvs, rfl, hd, cs, q⟩ := h
  rw [Vals.ref1 r]
  obtain ⟨h1, h2, h3⟩ := canSort_ok cs
  have hu' : ∀ p ∈ kvs.map (fun p => keyP p.1), X.A.units + 2 + p.depth < cLine := fun p hp => by have := h3 p hp; omega
  obtain ⟨z, lo, ks, pr, o, es, ep, ho, ex, ed, el, _⟩ := (show ObjOk X.prog X.w H s.heap a (.dT kvs) from hd.ok I.hok)
  have le : es.size = ks.length := by rw [← Array.length_toList, el, List.length_map]
  have lk : kvs.length = ks.length := Paired.length pr
  have ik : IsKeys H kvs (ks.map fun x => x.2.1) := isKeys_of pr
  refine sorted_from (G := fun vs ps => vs = (ks.map fun x => x.2.1).map V.ref ∧ ps = kvs.map fun p => keyP p.1) (fun R hR => ?_) fun vs ps g => by
    obtain ⟨rfl, rfl⟩ := g
    exact ⟨dp_tups ik, h1, h2, by rw [List.length_map, List.length_map]; omega, hu', fun p hp => q _ p ik hp⟩
  refine PySem.W.kdu_collect (A := X.A.in1) (kdl_raw (prog := X.prog) (w := X.w) lo ex ed) (I.ok.hd hc) ho (by omega) fun h' tk acc hk it => ?_
  have ea := keys_list it
  rw [el, List.map_map] at ea
  refine hR _ _ _ _ (I.kept hk) ?_ ⟨rfl, rfl⟩
  rw [ea]
  have := vals_refs (ks.map fun x => x.2.1)
  rw [List.map_map, List.map_map] at this
  rw [List.map_map]
  exact this
def rSort2 (K : PySem.W.Frag) : List V → Hp → VK → Prop := fun xs H Q => rSortedD K xs H Q ∨ rSortT xs H Q
theorem cr_sort2 (hu : X.A.units + 64 < cLine) (hc : X.calm = true) : CallR X (.builtin "sorted") (rSort2 X.K) := by
  intro pins s σ H xs us Q I r h
  rcases h with h | h
  · exact cr_sortedD hu hc pins s σ H xs us Q I r h
  · exact cr_sortT hu hc pins s σ H xs us Q I r h
end
def kT (ks : List Key) : D := .tup (ks.map kD)
def sSort2 : D → Option Rn
  | .dT es => srtItems (es.map fun e => kT e.1)
  | d => sSorted d
theorem sort2_l (xs : List D) : sSort2 (.lst xs) = sSorted (.lst xs) := rfl
theorem sort2_k (xs : List (Key × D)) : sSort2 (.dK xs) = sSorted (.dK xs) := rfl
theorem pyL_keys : ∀ ks : List Key, pyL (ks.map kD) = some (ks.map kP)
  | [] => rfl
  | .inl i :: ks => by rw [List.map_cons, pyL, pyL_keys ks]; rfl
  | .inr i :: ks => by rw [List.map_cons, pyL, pyL_keys ks]; rfl
theorem pyL_tups : ∀ es : List (List Key × D), pyL (es.map fun e => kT e.1) = some (es.map fun e => keyP e.1)
  | [] => rfl
  | e :: es => by
    have h : py (kT e.1) = some (keyP e.1) := by unfold kT keyP; rw [py, pyL_keys]; rfl
    rw [List.map_cons, pyL, pyL_tups es, h]
    rfl
section
variable {K : PySem.W.Frag}
theorem DvT.keys {F : Hp} : ∀ {es : List (List Key × D)} {kvs : List (List Key × V)}, DvT K F es kvs → es.map (·.1) = kvs.map (·.1)
  | [], _, h => by cases h; rfl
  | (k, d) :: es, _, ⟨v, r, e, h, t⟩ => by subst e; rw [List.map_cons, List.map_cons, DvT.keys t]
theorem tups_at {F : Hp} : ∀ {kvs : List (List Key × V)} {bs : List Addr}, IsKeys F kvs bs → DvL K F (kvs.map fun e => kT e.1) (bs.map V.ref)
  | [], _, h => by cases h; rfl
  | _ :: _, _, .cons a t => ⟨_, _, rfl, ⟨_, _, rfl, a, dv_kDs _⟩, tups_at t⟩
theorem isKeys_mem {H : Hp} : ∀ {kvs : List (List Key × V)} {bs : List Addr}, IsKeys H kvs bs → ∀ b ∈ bs, ∃ xs, H b = some (.tup xs)
  | [], _, .nil, b, m => by cases m
  | _ :: _, _, .cons a t, b, m => by
    rcases List.mem_cons.mp m with rfl | m
    · exact ⟨_, a⟩
    · exact isKeys_mem t b m
theorem isKeys_on {H F : Hp} : ∀ {kvs : List (List Key × V)} {bs : List Addr}, IsKeys H kvs bs → (∀ b ∈ bs, F b = H b) → IsKeys F kvs bs
  | [], _, .nil, _ => .nil
  | _ :: _, _, .cons a t, h => .cons (by rw [h _ List.mem_cons_self]; exact a) (isKeys_on t fun b m => h b (List.mem_cons_of_mem _ m))
theorem v_sort2 : V1 K (fun v H Q => rSort2 K [v] H Q) sSort2 := by
  intro F H d v Q s hd p
  cases d with
  | dT es =>
    obtain ⟨a, kvs, e1, h1, t1⟩ := hd.dT s
    subst e1
    have ek : (es.map fun e => kT e.1) = kvs.map fun e => kT e.1 := by
      have := congrArg (List.map kT) t1.keys
      rwa [List.map_map, List.map_map] at this
    have ep : (es.map fun e => keyP e.1) = kvs.map fun e => keyP e.1 := by
      have := congrArg (List.map keyP) t1.keys
      rwa [List.map_map, List.map_map] at this
    have p : PV K F H Q (srtItems (es.map fun e => kT e.1)) := p
    unfold srtItems at p
    rw [pyL_tups, ep, ek] at p
    dsimp only at p
    split at p
    · rename_i cs
      refine .inr ⟨a, kvs, rfl, h1, cs, fun bs b ik hb => ?_⟩
      have hF : ∃ F' : Hp, Same F F' ∧ Same F' H ∧ (∀ c ∈ bs, F' c = H c) ∧ (∀ c, F' c ≠ none → F c ≠ none ∨ ∃ xs, F' c = some (.tup xs)) ∧ (NoTb F → NoTb F') := by
        refine ⟨fun c => if c ∈ bs then H c else F c, fun c o e => ?_, fun c o e => ?_, fun c m => if_pos m, fun c h => ?_, fun n c ps e => ?_⟩
        · show (if c ∈ bs then H c else F c) = _
          split
          · exact s _ _ e
          · exact e
        · have e : (if c ∈ bs then H c else F c) = some o := e
          split at e
          · exact e
          · exact s _ _ e
        · by_cases m : c ∈ bs
          · obtain ⟨xs, e⟩ := isKeys_mem ik c m
            exact .inr ⟨xs, by show (if c ∈ bs then H c else F c) = _; rw [if_pos m]; exact e⟩
          · have h : (if c ∈ bs then H c else F c) ≠ none := h
            rw [if_neg m] at h
            exact .inl h
        · have e : (if c ∈ bs then H c else F c) = some (.tbl ps) := e
          split at e
          · rename_i m
            obtain ⟨xs, e2⟩ := isKeys_mem ik c m
            rw [e2] at e
            cases e
          · exact n c ps e
      obtain ⟨F', s1, s2, s3, s4, s5⟩ := hF
      have t2 : DvL K F' (kvs.map fun e => kT e.1) (bs.map V.ref) := tups_at (isKeys_on ik s3)
      have e := (pyL_map (pyL_tups es)).1
      rw [ep, ek] at e
      rw [e]
      exact p b F' _ ⟨.of (Same.upd hb), s5, s1, s2.trans (Same.upd hb), fun c h => (s4 c h).elim .inl fun z => .inr (.inr z)⟩ (.of hb) (s2.free hb) ⟨_, upd_same, t2.sort⟩
    · exact p.elim
  | _ => exact .inl (v_sorted F H _ v Q s hd p)
end
end DL

namespace DL
open PySem PySem.Spec PyProof.Rows L2
variable [TabCtx]
/-! ### == of dicts -/
def valP (qs : List (Key × PyData)) (k : Key) : Option PyData := (qs.find? fun q => decide (q.1 = k)).map (·.2)
def eqvK (ps qs : List (Key × PyData)) : Bool := ps.all fun p => match valP qs p.1 with
  | some u => PyData.eqv p.2 u
  | none => false
def eqP2 (ps qs : List (Key × PyData)) : Bool := ps.length == qs.length && eqvK ps qs
def DpK (K : PySem.W.Frag) (H : Hp) : List (Key × V) → List (Key × PyData) → Prop := Paired fun l q => l.1 = q.1 ∧ Dp K H l.2 q.2 ∧ SeqAt.shaped q.2 = true
section
variable {X : Cx} {pins : List (Addr × Obj)} {σ : L2.St} {H : Hp} {s : Shared}
theorem val_pair {k : Key} : ∀ {ls : List (Key × V)} {vb : List (Key × Value)} {qs : List (Key × PyData)}, KV ls vb → DpK X.K H ls qs → (valueAt vb k = none ∧ valP qs k = none) ∨ ∃ y u v, valueAt vb k = some y ∧ valP qs k = some u ∧ Dp X.K H v u ∧ RelV v y ∧ SeqAt.shaped u = true
  | _, _, _, .nil, .nil => .inl ⟨rfl, rfl⟩
  | l :: ls, b :: vb, q :: qs, .cons h t, .cons g r => by
    obtain ⟨h1, h2⟩ := h
    obtain ⟨g1, g2, g3⟩ := g
    by_cases e : l.1 = k
    · have e1 : b.1 = k := h1.symm.trans e
      have e2 : q.1 = k := g1.symm.trans e
      refine .inr ⟨b.2, q.2, l.2, ?_, ?_, g2, h2, g3⟩
      · unfold valueAt; simp [e1]
      · unfold valP; simp [e2]
    · have e1 : ¬ b.1 = k := fun z => e (h1.trans z)
      have e2 : ¬ q.1 = k := fun z => e (g1.trans z)
      have ih := val_pair (k := k) t r
      unfold valueAt valP at ih ⊢
      rw [List.find?_cons, List.find?_cons, decide_eq_false e1, decide_eq_false e2]
      exact ih
theorem hits_dp (I : Inv X pins σ H s) (hu : X.A.in1.units + 64 < cLine) {ls : List (Key × V)} {vb : List (Key × Value)} {qs : List (Key × PyData)} (rb : KV ls vb) (dq : DpK X.K H ls qs) :
    ∀ {ks : List (Key × V)} {va : List (Key × Value)} {ps : List (Key × PyData)}, KV ks va → DpK X.K H ks ps → PySem.W.KeqHits X.A.in1 s vb va (eqvK ps qs)
  | _, _, _, .nil, .nil => .nil
  | l :: ks, a :: va, p :: ps, .cons h t, .cons g r => by
    obtain ⟨h1, h2⟩ := h
    obtain ⟨g1, g2, g3⟩ := g
    have ih := hits_dp I hu rb dq t r
    have ea : p.1 = a.1 := g1.symm.trans h1
    obtain ⟨ak, av⟩ := a
    dsimp only at ea h2
    show PySem.W.KeqHits X.A.in1 s vb ((ak, av) :: va) ((match valP qs p.1 with | some u => PyData.eqv p.2 u | none => false) && eqvK ps qs)
    rw [ea]
    rcases val_pair (k := ak) rb dq with ⟨e1, e2⟩ | ⟨y, u, v, e1, e2, d, rv, sh⟩
    · rw [e2]
      exact .miss e1
    · rw [e2]
      obtain ⟨as1, r1⟩ := Dp.reads I _ _ _ g2 h2
      obtain ⟨as2, r2⟩ := Dp.reads I _ _ _ d rv
      exact .hit e1 (PySem.W.keq_at r1 r2 g3 sh hu) ih
end
section
variable {X : Cx}
def rEqK (K : PySem.W.Frag) : R2 := fun x y H Q => ∃ a b ks ls ps qs, x = .ref a ∧ y = .ref b ∧ Rd H a (.dK ks) ∧ Rd H b (.dK ls) ∧ DpK K H ks ps ∧ DpK K H ls qs ∧ Q (.bl (eqP2 ps qs)) H
def rNeK (K : PySem.W.Frag) : R2 := fun x y H Q => ∃ a b ks ls ps qs, x = .ref a ∧ y = .ref b ∧ Rd H a (.dK ks) ∧ Rd H b (.dK ls) ∧ DpK K H ks ps ∧ DpK K H ls qs ∧ Q (.bl (!eqP2 ps qs)) H
theorem op_eqK (hu : X.A.units + 66 < cLine) : OpR X (compareOp .Eq) (rEqK X.K) := by
  intro pins s σ H x y v u Q I rx ry h
  obtain ⟨a, b, ks, ls, ps, qs, rfl, rfl, ha, hb, d1, d2, q⟩ := h
  cases rx
  cases ry
  obtain ⟨_, oa, va, ra, da⟩ := dk_rd I.hok ha
  obtain ⟨_, ob, vb, rb, db⟩ := dk_rd I.hok hb
  have e1 : va.length = ps.length := by rw [← ra.length]; exact Paired.length d1
  have e2 : vb.length = qs.length := by rw [← rb.length]; exact Paired.length d2
  refine PySem.W.keq_eq (knd := mixKind X.prog X.w) (r := eqvK ps qs) oa ob da db (by omega) (fun _ => hits_dp I (by show X.A.units + 1 + 64 < cLine; omega) rb d2 ra d1) ?_
  rw [e1, e2]
  exact ⟨.bl (eqP2 ps qs), H, I, rfl, q⟩
theorem op_neK (hu : X.A.units + 66 < cLine) : OpR X (compareOp .NotEq) (rNeK X.K) := by
  intro pins s σ H x y v u Q I rx ry h
  obtain ⟨a, b, ks, ls, ps, qs, rfl, rfl, ha, hb, d1, d2, q⟩ := h
  cases rx
  cases ry
  obtain ⟨_, oa, va, ra, da⟩ := dk_rd I.hok ha
  obtain ⟨_, ob, vb, rb, db⟩ := dk_rd I.hok hb
  have e1 : va.length = ps.length := by rw [← ra.length]; exact Paired.length d1
  have e2 : vb.length = qs.length := by rw [← rb.length]; exact Paired.length d2
  refine PySem.W.keq_ne (knd := mixKind X.prog X.w) (r := eqvK ps qs) oa ob da db (by omega) (fun _ => hits_dp I (by show X.A.units + 1 + 64 < cLine; omega) rb d2 ra d1) ?_
  rw [e1, e2]
  exact ⟨.bl (!eqP2 ps qs), H, I, rfl, q⟩
end
/-- a dict's items as plain data -/
def pyK : List (Key × D) → Option (List (Key × PyData))
  | [] => some []
  | (k, d) :: es => match py d, pyK es with
    | some p, some ps => if SeqAt.shaped p = true then some ((k, p) :: ps) else none
    | _, _ => none
theorem DvK.dpK {K : PySem.W.Frag} {F H : Hp} (s : Same F H) : ∀ {es : List (Key × D)} {kvs : List (Key × V)} {ps : List (Key × PyData)}, DvK K F es kvs → pyK es = some ps → DpK K H kvs ps
  | [], _, _, h, e => by cases h; cases e; exact .nil
  | (k, d) :: es, _, _, ⟨v, r, ev, hv, t⟩, e => by
    subst ev
    unfold pyK at e
    cases q1 : py d with
    | none => rw [q1] at e; cases e
    | some p =>
      cases q2 : pyK es with
      | none => rw [q1, q2] at e; cases e
      | some ps =>
        rw [q1, q2] at e
        dsimp only at e
        split at e
        · rename_i sh
          cases e
          exact .cons ⟨rfl, hv.dp s q1, sh⟩ (DvK.dpK s t q2)
        · cases e
def eqC (d e : D) : Option Bool := match d, e with
  | .dK es, .dK fs => match pyK es, pyK fs with
    | some ps, some qs => some (eqP2 ps qs)
    | _, _ => none
  | d, e => eqA d e
def sEq2 (d e : D) : Option Rn := (eqC d e).map fun b => .f (.bl b)
def sNe2 (d e : D) : Option Rn := (eqC d e).map fun b => .f (.bl (!b))
theorem eqC_cases {d e : D} {b : Bool} (h : eqC d e = some b) : eqA d e = some b ∨ ∃ es fs ps qs, d = .dK es ∧ e = .dK fs ∧ pyK es = some ps ∧ pyK fs = some qs ∧ b = eqP2 ps qs := by
  unfold eqC at h
  split at h
  · rename_i es fs
    cases q1 : pyK es with
    | none => rw [q1] at h; cases h
    | some ps =>
      cases q2 : pyK fs with
      | none => rw [q1, q2] at h; cases h
      | some qs =>
        rw [q1, q2] at h
        cases h
        exact .inr ⟨es, fs, ps, qs, rfl, rfl, q1, q2, rfl⟩
  · exact .inl h
section
variable {X : Cx}
def rEq2 (K : PySem.W.Frag) : R2 := fun x y H Q => rEqB K x y H Q ∨ rEqK K x y H Q
def rNe2 (K : PySem.W.Frag) : R2 := fun x y H Q => rNeB K x y H Q ∨ rNeK K x y H Q
theorem op_eq2 (hu : X.A.units + 66 < cLine) : OpR X (compareOp .Eq) (rEq2 X.K) := OpR.or (op_eqB (by omega)) (op_eqK hu)
theorem op_ne2 (hu : X.A.units + 66 < cLine) : OpR X (compareOp .NotEq) (rNe2 X.K) := OpR.or (op_neB (by omega)) (op_neK hu)
end
section
variable {K : PySem.W.Frag}
theorem v_eq2 : V2 K (rEq2 K) sEq2 := by
  intro F H d e v u Q s hd he p
  unfold sEq2 at p
  cases q : eqC d e with
  | none => rw [q] at p; exact p.elim
  | some b =>
    rw [q] at p
    rcases eqC_cases q with z | ⟨es, fs, ps, qs, rfl, rfl, q1, q2, rfl⟩
    · refine .inl (v_eq F H d e v u Q s hd he ?_)
      unfold sEq
      rw [z]
      exact p
    · obtain ⟨a, ks, e1, h1, t1⟩ := hd.dK s
      obtain ⟨b, ls, e2, h2, t2⟩ := he.dK s
      exact .inr ⟨a, b, ks, ls, ps, qs, e1, e2, h1, h2, t1.dpK s q1, t2.dpK s q2, PV.f s p rfl⟩
theorem v_ne2 : V2 K (rNe2 K) sNe2 := by
  intro F H d e v u Q s hd he p
  unfold sNe2 at p
  cases q : eqC d e with
  | none => rw [q] at p; exact p.elim
  | some b =>
    rw [q] at p
    rcases eqC_cases q with z | ⟨es, fs, ps, qs, rfl, rfl, q1, q2, rfl⟩
    · refine .inl (v_ne F H d e v u Q s hd he ?_)
      unfold sNe
      rw [z]
      exact p
    · obtain ⟨a, ks, e1, h1, t1⟩ := hd.dK s
      obtain ⟨b, ls, e2, h2, t2⟩ := he.dK s
      exact .inr ⟨a, b, ks, ls, ps, qs, e1, e2, h1, h2, t1.dpK s q1, t2.dpK s q2, PV.f s p rfl⟩
end
theorem room66 {k : Nat} {A : Around} (r : Room k A) : A.units + 66 < cLine := by have := r.un; omega
/-! off dicts the old words hold -/
theorem eq2_i (i : Int) (e : D) : sEq2 (.int i) e = sEq (.int i) e := rfl
theorem ne2_i (i : Int) (e : D) : sNe2 (.int i) e = sNe (.int i) e := rfl
theorem eq2_s (i : Str) (e : D) : sEq2 (.str i) e = sEq (.str i) e := rfl
theorem ne2_s (i : Str) (e : D) : sNe2 (.str i) e = sNe (.str i) e := rfl
theorem eq2_l (i : List D) (e : D) : sEq2 (.lst i) e = sEq (.lst i) e := rfl
theorem ne2_l (i : List D) (e : D) : sNe2 (.lst i) e = sNe (.lst i) e := rfl
theorem eq2_t (i : List D) (e : D) : sEq2 (.tup i) e = sEq (.tup i) e := rfl
theorem ne2_t (i : List D) (e : D) : sNe2 (.tup i) e = sNe (.tup i) e := rfl
theorem eq2_b (i : Bool) (e : D) : sEq2 (.bl i) e = sEq (.bl i) e := rfl
theorem ne2_b (i : Bool) (e : D) : sNe2 (.bl i) e = sNe (.bl i) e := rfl
theorem eq2_n (e : D) : sEq2 .non e = sEq .non e := rfl
theorem ne2_n (e : D) : sNe2 .non e = sNe .non e := rfl
theorem eq2_c (i : List Int) (e : D) : sEq2 (.scr i) e = sEq (.scr i) e := rfl
theorem ne2_c (i : List Int) (e : D) : sNe2 (.scr i) e = sNe (.scr i) e := rfl
/-! more to reckon with -/
theorem e_sWhile (f : Cs → Nat) (c : Cs → Out Bool) (b : Cs → OS) (env : Cs) : sWhile f c b env = whileL c b (f env) env := rfl
def vPo (i : Nat) (env : Cs) : Option Cell → Out RV
  | some (.own (.lst xs)) => match xs[xs.length - 1]? with
    | some d => .ok (.frz d) (env.set i (.own (.lst xs.dropLast)))
    | none => .stuck
  | _ => .stuck
theorem v_pop (i : Nat) (env : Cs) : gPop i env = vPo i env env[i]? := by
  unfold gPop vPo
  rcases env[i]? with _ | c
  · rfl
  · cases c with
    | own d => cases d <;> rfl
    | _ => rfl
theorem vPo_o (i : Nat) (env : Cs) (xs : List D) (d : D) : vPo i env (some (.own (.lst (xs ++ [d])))) = .ok (.frz d) (env.set i (.own (.lst xs))) := by
  unfold vPo
  simp
def vP0 (i : Nat) (env : Cs) : Option Cell → Out RV
  | some (.own (.lst (d :: xs))) => .ok (.frz d) (env.set i (.own (.lst xs)))
  | _ => .stuck
theorem v_pop0 (i : Nat) (env : Cs) : gPop0 i env = vP0 i env env[i]? := by
  unfold gPop0 vP0
  rcases env[i]? with _ | c
  · rfl
  · cases c with
    | own d =>
      cases d with
      | lst xs => cases xs <;> rfl
      | _ => rfl
    | _ => rfl
theorem vP0_o (i : Nat) (env : Cs) (xs : List D) (d : D) : vP0 i env (some (.own (.lst (d :: xs)))) = .ok (.frz d) (env.set i (.own (.lst xs))) := rfl
theorem e_while (c : Cs → Out Bool) (b : Cs → OS) (n : Nat) (env : Cs) : whileL c b (n + 1) env = (c env).bs fun k env1 => if k = true then (b env1).lp fun env2 => whileL c b n env2 else .nx env1 := by
  rw [whileL]
  congr 1
  funext k env1
  split
  · cases b env1 <;> rfl
  · rfl
/-- a while that comes to its end -/
theorem while_wp {Q : Post} {c : Cs → Out Bool} {b : Cs → OS} (I : Nat → Cs → Prop)
    (h : ∀ n env, I n env → (∃ env1, c env = .ok false env1 ∧ Q.n env1) ∨ ∃ env1, c env = .ok true env1 ∧ OS.wp ⟨fun env2 => ∃ m, m < n ∧ I m env2, Q.r⟩ (b env1)) :
    ∀ fuel n env, n < fuel → I n env → OS.wp Q (whileL c b fuel env)
  | 0, n, env, hf, _ => by omega
  | fuel + 1, n, env, hf, hI => by
    rw [e_while]
    rcases h n env hI with ⟨env1, e1, q⟩ | ⟨env1, e1, e2⟩
    · rw [e1]
      exact q
    · rw [e1, bs_ok, if_pos rfl]
      have go : ∀ env2, (∃ m, m < n ∧ I m env2) → OS.wp Q (whileL c b fuel env2) := fun env2 ⟨m, hm, hi⟩ => while_wp I h fuel m env2 (by omega) hi
      cases q : b env1 with
      | nx e => rw [q] at e2; exact go e e2
      | ct e => rw [q] at e2; exact go e e2
      | rt r => rw [q] at e2; exact e2
      | bk e => rw [q] at e2; exact e2.elim
      | stuck => rw [q] at e2; exact e2.elim
      | exc c => rw [q] at e2; exact e2.elim
theorem sIx_lst0 (a : D) (r : List D) : sIx (.lst (a :: r)) (.int 0) = some (.f a) := e_ixL (atI_nat (j := 0) rfl)
theorem v_asg (t : D → Cs → Option Cs) (d : D) (env : Cs) : asgK t d env = tgt (t d env) fun e => .nx e := by
  unfold asgK tgt
  cases t d env <;> rfl
end DL

namespace DL
open PySem PySem.Spec PyProof.Rows L2
variable [TabCtx]
/-! ### == and != of things laid out -/
def Lay (n : Nat) (d : D) : Prop := ∃ p, py d = some p ∧ p.canLay0 = true ∧ p.depth ≤ n
theorem Lay.mono {n m : Nat} {d : D} (h : Lay n d) (l : n ≤ m) : Lay m d := by
  obtain ⟨p, a, b, c⟩ := h
  exact ⟨p, a, b, Nat.le_trans c l⟩
theorem lay_int (n : Nat) (i : Int) : Lay n (.int i) := ⟨.int i, rfl, rfl, Nat.zero_le _⟩
theorem lay_bl (n : Nat) (i : Bool) : Lay n (.bl i) := ⟨.bool i, rfl, rfl, Nat.zero_le _⟩
theorem lay_non (n : Nat) : Lay n .non := ⟨.none, rfl, rfl, Nat.zero_le _⟩
theorem lay_str (n : Nat) {s : Str} (h : PyData.canLay0 (.str s) = true) : Lay n (.str s) := ⟨.str s, rfl, h, Nat.zero_le _⟩
theorem lay_all {n : Nat} : ∀ {xs : List D}, (∀ x ∈ xs, Lay n x) → ∃ ps, pyL xs = some ps ∧ PyData.canLayAll0 ps = true ∧ PyData.depthAll ps ≤ n
  | [], _ => ⟨[], rfl, rfl, Nat.zero_le _⟩
  | x :: xs, h => by
    obtain ⟨p, a, b, c⟩ := h x List.mem_cons_self
    obtain ⟨ps, a2, b2, c2⟩ := lay_all fun y hy => h y (List.mem_cons_of_mem _ hy)
    refine ⟨p :: ps, by rw [pyL, a, a2], by rw [PyData.canLayAll0, b, b2]; rfl, ?_⟩
    rw [PyData.depthAll]
    omega
theorem lay_tup {n : Nat} {xs : List D} (h : ∀ x ∈ xs, Lay n x) : Lay (n + 1) (.tup xs) := by
  obtain ⟨ps, a, b, c⟩ := lay_all h
  refine ⟨.tuple ps, by simp [py, a], b, ?_⟩
  rw [PyData.depth]
  omega
theorem lay_lst {n : Nat} {xs : List D} (h : ∀ x ∈ xs, Lay n x) : Lay (n + 1) (.lst xs) := by
  obtain ⟨ps, a, b, c⟩ := lay_all h
  refine ⟨.list ps, by simp [py, a], b, ?_⟩
  rw [PyData.depth]
  omega
theorem shaped_of {p : PyData} (b : p.canLay0 = true) (c : p.depth ≤ 60) : SeqAt.shaped p = true := by
  unfold SeqAt.shaped
  rw [Bool.and_eq_true, decide_eq_true_eq]
  exact ⟨b, by omega⟩
theorem eqA_self {d : D} (h : Lay 60 d) : eqA d d = some true := by
  obtain ⟨p, a, b, c⟩ := h
  unfold eqA
  cases q : scalD d d with
  | some b =>
    unfold scalD at q
    cases e : flatE d with
    | none => rw [e] at q; cases q
    | some x =>
      rw [e] at q
      dsimp only at q
      split at q
      · cases q; simp
      · cases q
  | none =>
    dsimp only
    unfold eqD
    rw [a]
    dsimp only
    rw [if_pos ⟨shaped_of b c, shaped_of b c⟩, SeqAt.eqv_refl p b]
theorem sNe_self {d : D} (h : Lay 60 d) : sNe d d = some (.f (.bl false)) := by unfold sNe; rw [eqA_self h]; rfl
theorem sEq_self {d : D} (h : Lay 60 d) : sEq d d = some (.f (.bl true)) := by unfold sEq; rw [eqA_self h]; rfl
theorem eqC_self {d : D} (h : Lay 60 d) : eqC d d = some true := by
  obtain ⟨p, a, b, c⟩ := h
  cases d with
  | dK es => cases a
  | _ => exact eqA_self ⟨p, a, b, c⟩
theorem sNe2_self {d : D} (h : Lay 60 d) : sNe2 d d = some (.f (.bl false)) := by unfold sNe2; rw [eqC_self h]; rfl
theorem sEq2_self {d : D} (h : Lay 60 d) : sEq2 d d = some (.f (.bl true)) := by unfold sEq2; rw [eqC_self h]; rfl
mutual
def plD : D → Bool
  | .int _ => true
  | .str _ => true
  | .lst xs => plL xs
  | .tup xs => plL xs
  | _ => false
def plL : List D → Bool
  | [] => true
  | x :: xs => plD x && plL xs
end
mutual
theorem eqv_pl : ∀ {d e : D} {p q : PyData}, plD d = true → plD e = true → py d = some p → py e = some q → PyData.eqv p q = true → d = e
  | .int i, .int j, _, _, _, _, a, b, h => by cases a; cases b; rw [PyData.eqv] at h; rw [eq_of_beq h]
  | .str i, .str j, _, _, _, _, a, b, h => by cases a; cases b; rw [PyData.eqv] at h; rw [eq_of_beq h]
  | .lst xs, .lst ys, p, q, u, v, a, b, h => by
    rw [py] at a b
    cases e1 : pyL xs with
    | none => rw [e1] at a; cases a
    | some ps =>
      cases e2 : pyL ys with
      | none => rw [e2] at b; cases b
      | some qs =>
        rw [e1] at a; rw [e2] at b
        cases a; cases b
        rw [PyData.eqv] at h
        rw [eqvL_pl u v e1 e2 h]
  | .tup xs, .tup ys, p, q, u, v, a, b, h => by
    rw [py] at a b
    cases e1 : pyL xs with
    | none => rw [e1] at a; cases a
    | some ps =>
      cases e2 : pyL ys with
      | none => rw [e2] at b; cases b
      | some qs =>
        rw [e1] at a; rw [e2] at b
        cases a; cases b
        rw [PyData.eqv] at h
        rw [eqvL_pl u v e1 e2 h]
  | .int _, .str _, _, _, _, _, a, b, h => by cases a; cases b; simp [PyData.eqv] at h
  | .str _, .int _, _, _, _, _, a, b, h => by cases a; cases b; simp [PyData.eqv] at h
  | .int _, .lst ys, _, _, _, _, a, b, h => by
    rw [py] at b
    cases e2 : pyL ys with
    | none => rw [e2] at b; cases b
    | some qs => rw [e2] at b; cases a; cases b; simp [PyData.eqv] at h
  | .int _, .tup ys, _, _, _, _, a, b, h => by
    rw [py] at b
    cases e2 : pyL ys with
    | none => rw [e2] at b; cases b
    | some qs => rw [e2] at b; cases a; cases b; simp [PyData.eqv] at h
  | .str _, .lst ys, _, _, _, _, a, b, h => by
    rw [py] at b
    cases e2 : pyL ys with
    | none => rw [e2] at b; cases b
    | some qs => rw [e2] at b; cases a; cases b; simp [PyData.eqv] at h
  | .str _, .tup ys, _, _, _, _, a, b, h => by
    rw [py] at b
    cases e2 : pyL ys with
    | none => rw [e2] at b; cases b
    | some qs => rw [e2] at b; cases a; cases b; simp [PyData.eqv] at h
  | .lst xs, .int _, _, _, _, _, a, b, h => by
    rw [py] at a
    cases e1 : pyL xs with
    | none => rw [e1] at a; cases a
    | some ps => rw [e1] at a; cases a; cases b; simp [PyData.eqv] at h
  | .lst xs, .str _, _, _, _, _, a, b, h => by
    rw [py] at a
    cases e1 : pyL xs with
    | none => rw [e1] at a; cases a
    | some ps => rw [e1] at a; cases a; cases b; simp [PyData.eqv] at h
  | .tup xs, .int _, _, _, _, _, a, b, h => by
    rw [py] at a
    cases e1 : pyL xs with
    | none => rw [e1] at a; cases a
    | some ps => rw [e1] at a; cases a; cases b; simp [PyData.eqv] at h
  | .tup xs, .str _, _, _, _, _, a, b, h => by
    rw [py] at a
    cases e1 : pyL xs with
    | none => rw [e1] at a; cases a
    | some ps => rw [e1] at a; cases a; cases b; simp [PyData.eqv] at h
  | .lst xs, .tup ys, _, _, _, _, a, b, h => by
    rw [py] at a
    rw [py] at b
    cases e1 : pyL xs with
    | none => rw [e1] at a; cases a
    | some ps =>
      cases e2 : pyL ys with
      | none => rw [e2] at b; cases b
      | some qs => rw [e1] at a; rw [e2] at b; cases a; cases b; simp [PyData.eqv] at h
  | .tup xs, .lst ys, _, _, _, _, a, b, h => by
    rw [py] at a
    rw [py] at b
    cases e1 : pyL xs with
    | none => rw [e1] at a; cases a
    | some ps =>
      cases e2 : pyL ys with
      | none => rw [e2] at b; cases b
      | some qs => rw [e1] at a; rw [e2] at b; cases a; cases b; simp [PyData.eqv] at h
theorem eqvL_pl : ∀ {xs ys : List D} {ps qs : List PyData}, plL xs = true → plL ys = true → pyL xs = some ps → pyL ys = some qs → PyData.eqvAll ps qs = true → xs = ys
  | [], [], _, _, _, _, _, _, _ => rfl
  | [], y :: ys, _, _, _, _, a, b, h => by
    rw [pyL] at b
    split at b
    · cases b; cases a; simp [PyData.eqvAll] at h
    · cases b
  | x :: xs, [], _, _, _, _, a, b, h => by
    rw [pyL] at a
    split at a
    · cases a; cases b; simp [PyData.eqvAll] at h
    · cases a
  | x :: xs, y :: ys, _, _, u, v, a, b, h => by
    rw [pyL] at a b
    rw [plL, Bool.and_eq_true] at u v
    split at a
    · rename_i p ps e1 e2
      split at b
      · rename_i q qs e3 e4
        cases a; cases b
        rw [PyData.eqvAll, Bool.and_eq_true] at h
        rw [eqv_pl u.1 v.1 e1 e3 h.1, eqvL_pl u.2 v.2 e2 e4 h.2]
      · cases b
    · cases a
end
/-- laid out, with no truths -/
def Pl (n : Nat) (d : D) : Prop := Lay n d ∧ plD d = true
theorem eqA_pl {d e : D} [Decidable (d = e)] (h : Pl 60 d) (k : Pl 60 e) : eqA d e = some (decide (d = e)) := by
  by_cases q : d = e
  · subst q
    rw [eqA_self h.1, decide_eq_true rfl]
  · obtain ⟨⟨p, a, b, c⟩, u⟩ := h
    obtain ⟨⟨p', a', b', c'⟩, u'⟩ := k
    rw [decide_eq_false q]
    unfold eqA
    have hv : PyData.eqv p p' = false := Bool.eq_false_iff.mpr fun z => q (eqv_pl u u' a a' z)
    cases z : scalD d e with
    | some bb =>
      unfold scalD at z
      cases e1 : flatE d with
      | none => rw [e1] at z; cases z
      | some x =>
        cases e2 : flatE e with
        | none => rw [e1, e2] at z; cases z
        | some y =>
          rw [e1, e2] at z
          dsimp only at z
          split at z
          · cases z
            refine congrArg some (decide_eq_false (p := x = y) fun w => q ?_)
            subst w
            cases d <;> cases e <;> first | (cases e1; cases e2; rfl) | (cases e1; cases e2) | cases e1 | cases e2
          · cases z
    | none =>
      dsimp only
      unfold eqD
      rw [a, a']
      dsimp only
      rw [if_pos ⟨shaped_of b c, shaped_of b' c'⟩, hv]
theorem plL_mem : ∀ {xs : List D}, (∀ x ∈ xs, plD x = true) → plL xs = true
  | [], _ => rfl
  | x :: xs, h => by rw [plL, h x List.mem_cons_self, plL_mem fun y hy => h y (List.mem_cons_of_mem _ hy)]; rfl
theorem pl_int (n : Nat) (i : Int) : Pl n (.int i) := ⟨lay_int n i, rfl⟩
theorem pl_str (n : Nat) {s : Str} (h : PyData.canLay0 (.str s) = true) : Pl n (.str s) := ⟨lay_str n h, rfl⟩
theorem pl_tup {n : Nat} {xs : List D} (h : ∀ x ∈ xs, Pl n x) : Pl (n + 1) (.tup xs) := ⟨lay_tup fun x hx => (h x hx).1, by rw [plD]; exact plL_mem fun x hx => (h x hx).2⟩
theorem pl_lst {n : Nat} {xs : List D} (h : ∀ x ∈ xs, Pl n x) : Pl (n + 1) (.lst xs) := ⟨lay_lst fun x hx => (h x hx).1, by rw [plD]; exact plL_mem fun x hx => (h x hx).2⟩
theorem Pl.mono {n m : Nat} {d : D} (h : Pl n d) (l : n ≤ m) : Pl m d := ⟨h.1.mono l, h.2⟩
theorem lst_nil_iff (xs : List D) : D.lst xs = .lst [] ↔ xs = [] := by constructor <;> intro h <;> first | (cases h; rfl) | (subst h; rfl)
theorem sNe_nilL {xs : List D} (h : Lay 60 (.lst xs)) : sNe (.lst xs) (.lst []) = some (.f (.bl (!xs.isEmpty))) := by
  obtain ⟨p, a, b, c⟩ := h
  rw [py] at a
  cases e : pyL xs with
  | none => rw [e] at a; cases a
  | some ps =>
    rw [e] at a
    cases a
    show (eqA _ _).map _ = _
    have z : scalD (.lst xs) (.lst []) = none := rfl
    unfold eqA
    rw [z]
    dsimp only
    unfold eqD
    rw [py, py, e]
    show (if SeqAt.shaped (.list ps) = true ∧ SeqAt.shaped (.list []) = true then some (PyData.eqv (.list ps) (.list [])) else none).map _ = _
    rw [if_pos ⟨shaped_of b c, by decide +kernel⟩]
    cases xs with
    | nil => cases e; rfl
    | cons x xs =>
      rw [pyL] at e
      split at e
      · cases e; simp [PyData.eqv, PyData.eqvAll]
      · cases e
theorem sEq_nilL {xs : List D} (h : Lay 60 (.lst xs)) : sEq (.lst xs) (.lst []) = some (.f (.bl xs.isEmpty)) := by
  have := sNe_nilL h
  unfold sNe at this
  unfold sEq
  cases q : eqA (.lst xs) (.lst []) with
  | none => rw [q] at this; cases this
  | some b =>
    rw [q] at this
    have e : (!b) = (!xs.isEmpty) := by simpa using this
    have : b = xs.isEmpty := by
      generalize xs.isEmpty = w at e
      cases b <;> cases w <;> first | rfl | cases e
    rw [this]; rfl
theorem sNe_nilT {xs : List D} (h : Lay 60 (.tup xs)) : sNe (.tup xs) (.tup []) = some (.f (.bl (!xs.isEmpty))) := by
  obtain ⟨p, a, b, c⟩ := h
  rw [py] at a
  cases e : pyL xs with
  | none => rw [e] at a; cases a
  | some ps =>
    rw [e] at a
    cases a
    show (eqA _ _).map _ = _
    have z : scalD (.tup xs) (.tup []) = none := rfl
    unfold eqA
    rw [z]
    dsimp only
    unfold eqD
    rw [py, py, e]
    show (if SeqAt.shaped (.tuple ps) = true ∧ SeqAt.shaped (.tuple []) = true then some (PyData.eqv (.tuple ps) (.tuple [])) else none).map _ = _
    rw [if_pos ⟨shaped_of b c, by decide +kernel⟩]
    cases xs with
    | nil => cases e; rfl
    | cons x xs =>
      rw [pyL] at e
      split at e
      · cases e; simp [PyData.eqv, PyData.eqvAll]
      · cases e
theorem sEq_nilT {xs : List D} (h : Lay 60 (.tup xs)) : sEq (.tup xs) (.tup []) = some (.f (.bl xs.isEmpty)) := by
  have := sNe_nilT h
  unfold sNe at this
  unfold sEq
  cases q : eqA (.tup xs) (.tup []) with
  | none => rw [q] at this; cases this
  | some b =>
    rw [q] at this
    have e : (!b) = (!xs.isEmpty) := by simpa using this
    have : b = xs.isEmpty := by
      generalize xs.isEmpty = w at e
      cases b <;> cases w <;> first | rfl | cases e
    rw [this]; rfl
/-! ### dicts by pairs -/
theorem put_new {κ : Type} [DecidableEq κ] {es : List (κ × D)} {k : κ} (d : D) (h : k ∉ es.map (·.1)) : put es k d = es ++ [(k, d)] := by
  unfold put
  rw [if_neg]
  intro z
  obtain ⟨e, he, q⟩ := List.any_eq_true.mp z
  exact h (List.mem_map.mpr ⟨e, he, of_decide_eq_true q⟩)
theorem merge_nd : ∀ {es acc : List (Key × D)}, ((acc ++ es).map (·.1)).Nodup → mergeD acc es = acc ++ es
  | [], acc, _ => by rw [List.append_nil]; rfl
  | e :: es, acc, h => by
    have h1 : e.1 ∉ acc.map (·.1) := fun z => by
      rw [List.map_append, List.map_cons] at h
      exact (List.nodup_append.mp h).2.2 _ z _ List.mem_cons_self rfl
    show mergeD (put acc e.1 e.2) es = _
    rw [put_new _ h1, merge_nd (by rw [List.append_assoc]; exact h), List.append_assoc]
    rfl
theorem pairs_map {β : Type} (f : β → Key × D) (g : β → D) (h : ∀ x, g x = .tup [kD (f x).1, (f x).2]) : ∀ xs : List β, asPairs (xs.map g) = some (xs.map f)
  | [] => rfl
  | x :: xs => by
    have ih := pairs_map f g h xs
    rw [List.map_cons, h x, asPairs, ih, List.map_cons]
    have : asKey (kD (f x).1) = some (f x).1 := by cases (f x).1 <;> rfl
    rw [this]
theorem dict_map {β : Type} (f : β → Key × D) (g : β → D) (h : ∀ x, g x = .tup [kD (f x).1, (f x).2]) {xs : List β} (nd : ((xs.map f).map (·.1)).Nodup) (hz : xs.length ≤ 16777216) : sDict (.lst (xs.map g)) = some (.t (.dK (xs.map f))) := by
  unfold sDict
  dsimp only
  rw [pairs_map f g h]
  dsimp only
  rw [if_pos (show sz (xs.map f).length = true from decide_eq_true (by rw [List.length_map]; exact hz)), merge_nd (acc := []) nd]
  rfl
theorem fm_filter {α β : Type} (p : α → Bool) (f : α → β) : ∀ l : List α, (l.filterMap fun x => if p x = true then some (f x) else none) = (l.filter p).map f
  | [] => rfl
  | x :: l => by
    rw [List.filterMap_cons, List.filter_cons, fm_filter p f l]
    by_cases h : p x = true
    · rw [if_pos h, if_pos h]; rfl
    · rw [if_neg h, if_neg h]
theorem fm_some {α β : Type} (f : α → β) (l : List α) : (l.filterMap fun x => some (f x)) = l.map f := by rw [List.filterMap_eq_map']
theorem wipe_n (env : Cs) : wipeE env [] = env := rfl
theorem wipe_c (env : Cs) (v : Nat) (vs : List Nat) : wipeE env (v :: vs) = (wipeE env vs).set v .un := rfl
/-- a list made by a comprehension with a test; e1 is the state in which the test and the value are reckoned -/
theorem lcL_fil {β : Type} (enc : β → D) (p : β → Bool) (f : β → D) (xs : List β) {vs : List Nat} {t : D → Cs → Option Cs} {c : Cs → Out Bool} {g : Cs → Out D} {env : Cs} {e1 : β → Cs} (hf : freeAt env vs = true)
    (ht : ∀ x, t (enc x) (wipeE env vs) = some (e1 x)) (hb : ∀ x, backE env (e1 x) vs = env) (hz : xs.length ≤ 16777216)
    (hc : ∀ x ∈ xs, c (e1 x) = .ok (p x) (e1 x)) (hg : ∀ x ∈ xs, p x = true → g (e1 x) = .ok (f x) (e1 x)) :
    lcL vs t c g (xs.map enc) env [] = .ok (.tmp (.lst ((xs.filter p).map f))) env := by
  rw [lcL_map enc (fun x => if p x = true then some (f x) else none) hf xs (fun x hx => ?_) [] (by simpa using hz), List.nil_append, fm_filter]
  refine ⟨e1 x, e1 x, ht x, ?_, ?_⟩
  · rw [hc x hx]
    by_cases h : p x = true
    · rw [if_pos h, h]; rfl
    · rw [if_neg h, Bool.eq_false_iff.mpr h]; rfl
  · by_cases h : p x = true
    · rw [if_pos h]
      exact ⟨e1 x, hg x hx h, hb x⟩
    · rw [if_neg h]
      exact hb x
theorem lcL_all {β : Type} (enc : β → D) (f : β → D) (xs : List β) {vs : List Nat} {t : D → Cs → Option Cs} {g : Cs → Out D} {env : Cs} {e1 : β → Cs} (hf : freeAt env vs = true)
    (ht : ∀ x, t (enc x) (wipeE env vs) = some (e1 x)) (hb : ∀ x, backE env (e1 x) vs = env) (hz : xs.length ≤ 16777216)
    (hg : ∀ x ∈ xs, g (e1 x) = .ok (f x) (e1 x)) :
    lcL vs t (noE gYes) (noE g) (xs.map enc) env [] = .ok (.tmp (.lst (xs.map f))) env := by
  rw [lcL_fil enc (fun _ => true) f xs hf ht hb hz (c := noE gYes) (g := noE g) (fun _ _ => rfl) (fun x hx _ => by rw [v_noE, hg x hx]; rfl)]
  congr 4
  rw [List.filter_eq_self.mpr fun _ _ => rfl]
end DL

namespace DL
open PySem PySem.Spec PyProof.Rows L2 HotX L2H
/-! ### a list's end while an exception is handled -/
section
variable {prog : Program} {w : World} {A : Around} {E : Value → Shared → Prop} {s : Shared}
theorem list_end_hot {it l x1 : Addr} {i : Nat} {its : Array Value} {Q : Option Value → Shared → Prop} (hot : HotAt A x1 s.heap) (ne : x1 ≠ it) (hit : s.heap.IsListIter it l i) (hl : s.heap.IsList l its) (hx : its[i]? = none)
    (hQ : ∀ h', Heap.ExtBut it s.heap h' → Q none { s with heap := h' }) : wpAny (model prog w) A (pyNext (.ref it)) Q E s := by
  obtain ⟨o, ho, _, hd⟩ := id hit; obtain ⟨ol, hol, _, nl, hdl⟩ := hl
  obtain ⟨hh, o1, v1, g1, d1, c1⟩ := hot; unfold pyNext
  refine wpAny_bind (wpAny_attempt (wpAny_callSpecial?_slot (name := Str.ofString "__next__") hit.typeIs slot_listiter_next (wpAny_call_entry slot_listiter_next hit.typeIs entry_listiter_next ?_ (args_listiter_next _))))
  refine (show wpAny _ _ (field (.ref it) 0 >>= _) _ _ s from wpAny_bind (wpAny_field ho hd (x := .ref l) rfl ?_))
  show wpAny _ _ (if (Value.ref l == Value.none) = true then _ else _) _ _ s; rw [if_neg (show ¬ ((Value.ref l == Value.none) = true) from Bool.false_ne_true)]
  refine (show wpAny _ _ (field (.ref it) 1 >>= _) _ _ s from wpAny_bind (wpAny_field ho hd (x := .int i 0) rfl ?_))
  refine (show wpAny _ _ (seqItems? (.ref l) >>= _) _ _ s from wpAny_bind (wpAny_seqItems hol hdl ?_)); simp only [Int.toNat_natCast, hx]
  refine wpAny_bind (wpAny_rule (wpAny_bind (wpAny_setField ho hd (by simp) ?_))); show wpAny _ _ (newExc (.type "StopIteration") [] >>= _) _ _ _
  refine wpAny_bind ?_; simp only [newExc, newTuple]; refine wpAny_bind (wpAny_newObj_type ?_ (by size_fits))
  refine wpAny_bind (m := firstArgMember _ _) (wpAny_of_eq (a := Value.none) (by first | rfl | (simp only [firstArgMember]; rfl)) ?_); refine wpAny_newObj_type ?_ (by size_fits)
  have b0 := (Heap.SameBut.update s.heap it (Obj.mapFields fun vs => vs.setIfInBounds 0 Value.none)).extBut
  have g2 := b0 x1 o1 ne g1
  refine raiseNew_hot ⟨hh, o1, v1, Heap.get?_push_of_some _ (Heap.get?_push_of_some _ g2), d1, c1⟩ (Nat.ne_of_lt (Heap.lt_size (Heap.get?_push_of_some _ g2))) (Heap.get?_push_size _ rfl) rfl (by first | (simp; done) | (simp; omega)) ?_
  refine wpAny_bind (wpAny_isInstance (T := "StopIteration") (b := true) ⟨_, Heap.get?_update_self _ (Heap.get?_push_size _ rfl) rfl, rfl⟩ isSubtype_stop (wpAny_pure (hQ _ fun b o hb e => ?_)))
  have g3 := b0 b o hb e
  rw [Heap.get?_update_other _ _ (Nat.ne_of_gt (Heap.lt_size (Heap.get?_push_of_some _ g3)))]; exact Heap.get?_push_of_some _ (Heap.get?_push_of_some _ g3)
end
theorem walks_hot {prog : Program} {w : World} {A : Around} {x1 : Addr} {o1 : Obj} {v1 : Array Value} (hh : A.handled = some (.ref x1)) (d1 : o1.data = .fields v1) (c1 : v1[2]? = some .none) (I ax : Addr) (nI : x1 ≠ I) (na : ax ≠ I) (its : Array Value) :
    Walks prog w A I [I, ax, x1] [I] its.size (fun i v => its[i]? = some v) (fun i h => (h.IsListIter I ax i ∧ h.IsList ax its) ∧ h.get? x1 = some o1) where
  sub := fun b hb => by rw [List.mem_singleton] at hb; rw [hb]; exact List.mem_cons_self
  frame := fun _ _ _ st hk => ⟨⟨st.1.1.at fun o e => hk I (by simp) o e, st.1.2.at fun o e => hk ax (by simp) o e⟩, hk x1 (by simp) _ st.2⟩
  item := fun i s Q E hi st hQ => wpAny_pyNext_list_item st.1.1 st.1.2 (x := its[i]) (by simp [hi]) fun h' g hs =>
    hQ _ h' s.toks (by simp [hi]) ⟨⟨g, st.1.2.extBut hs.extBut na⟩, hs.extBut _ _ nI st.2⟩ fun b o hb e => hs.extBut b o (fun h => hb (by simp [h])) e
  done := fun s Q E st hQ => list_end_hot ⟨hh, o1, v1, st.2, d1, c1⟩ nI st.1.1 st.1.2 (by simp) fun h' g => hQ h' s.toks fun b o hb e => g b o (fun h => hb (by simp [h])) e
  self := fun _ _ _ _ st hQ => wpAny_pyIter_listiter st.1.1 hQ
section
variable {prog : Program} {w : World} {A : Around} {E : Value → Shared → Prop} {s : Shared} {env : Env} {x1 : Addr}
/-- sum(a list of ints) -/
theorem sum_hot {l : Addr} {vs : List Value} {ns : List Int} {Q : Value → Shared → Prop} (hot : HotAt A x1 s.heap) (hl : s.heap.IsList l vs.toArray) (hi : IntsAre vs ns)
    (h : ∀ h' tk t', (∀ b o, s.heap.get? b = some o → h'.get? b = some o) → Q (.int ns.sum t') { s with heap := h', toks := tk }) : wpAny (model prog w) A (call (.builtin "sum") [.ref l]) Q E s := by
  obtain ⟨hh, o1, v1, g1, d1, c1⟩ := hot
  obtain ⟨xs, e⟩ := hi.allInts.items
  have hn : numsOf (intItems xs).toList = ns := by rw [← e]; exact hi.numsOf
  rw [nums_intItems] at hn; rw [e] at hl
  refine call_sum_walkG (iter_intList hl fun s₂ e2 st hfp hlI => ?_)
  subst e2
  have lt1 := Heap.lt_size g1
  refine ⟨_, _, _, _, _, _, numAt xs, rfl, walks_hot (A := A.in1) (o1 := o1) hh d1 c1 _ l (Nat.ne_of_lt lt1) hlI (intItems xs), ⟨st, Heap.get?_push_of_some _ g1⟩, fun b hb => ?_, (fun _ _ => intItems_at), fun h' tk t' hk => ?_⟩
  · rcases List.mem_cons.mp hb with z | hb
    · exact hfp b (by simp [z])
    · rcases List.mem_cons.mp hb with z | hb
      · exact hfp b (by simp [z])
      · rw [List.mem_singleton] at hb; subst hb
        show b < (s.heap.push _).objs.size
        rw [Heap.size_push]; exact Nat.lt_succ_of_lt lt1
  · have q := h h' tk t' (fun b o e => hk b o (fun m => absurd (Heap.lt_size e) (by rw [List.mem_singleton] at m; rw [m]; exact Nat.lt_irrefl _)) (Heap.get?_push_of_some _ e))
    have es : preSum (numAt xs) (intItems xs).size = ns.sum := by
      rw [preSum_eq, List.take_of_length_le (by simp [intItems]), hn]
    rw [es]; exact q
/-- [elt for x in a list], elt keeps all and gives F of each -/
theorem lc_hot {elt iter : Expr} {x : Str} {px : Pos} {scope : Scope} {pos : Pos} {Q : Value → Shared → Prop} (F : Value → Value → Prop) (hh : A.handled = some (.ref x1)) (hfree : ∀ y ∈ scope.names, y.2 ≠ .free) (hcell : ∀ y ∈ scope.names, y.2 ≠ .cell) (hkind : scope.kind = .function)
    (hnames : ∀ y ∈ scope.names, y.2 = .local → scope.names.lookup y.1 = some .local) (hx : scope.names.lookup x = some .local)
    (h : wpAny (model prog w) A (eval iter env) (fun xv sa => ∃ ax its o1 v1, xv = .ref ax ∧ sa.heap.IsList ax its ∧ its.size ≤ sizeLine ∧ sa.heap.get? x1 = some o1 ∧ o1.data = .fields v1 ∧ v1[2]? = some .none ∧
      (∀ C v sb mb E', v ∈ its → sb.heap.Ns C mb → mb x = some v → (∀ b o, sa.heap.get? b = some o → sb.heap.get? b = some o) → wpAny (model prog w) A (eval elt (compEnv scope C env)) (fun y sc => F v y ∧ Keeps sb sc) E' sb) ∧
      (∀ D h' tk ys, sa.heap.objs.size ≤ D → h'.PlainList D ys → Paired F its.toList ys.toList → (∀ b o, sa.heap.get? b = some o → h'.get? b = some o) → Q (.ref D) { sa with heap := h', toks := tk })) E s)
    (hs : ∀ x, foldedSetIterable iter env x = pure x := by intro _; rfl) : wpAny (model prog w) A (eval (.ListComp elt [⟨.Name x px, iter, [], 0⟩] scope pos) env) Q E s := by
  refine wpAny_ListComp hfree hkind hnames (wpAny_mono h (fun xv sa ha => ?_) fun _ _ e => e) hs
  obtain ⟨ax, its, o1, v1, rfl, hl, hsz, g1, d1, c1, helt, hQ⟩ := ha
  refine wpAny_pyIter_list hl (wpAny_newObj_type (hd := by size_fits) (wpAny_newFunctionEnv hcell (by intro y hy; simp at hy) (fun hz hns hsb => ?_) hkind))
  dsimp only at hns hsb ⊢
  obtain ⟨ol, hol, hol'⟩ := id hl
  have lta : ax < sa.heap.objs.size := Heap.lt_size hol
  have lt1 : x1 < sa.heap.objs.size := Heap.lt_size g1
  generalize eP : sa.heap.push { cls := .type "list_iterator", data := .fields #[.ref ax, .int 0 0] } = P at hns hsb ⊢
  have nP : P.objs.size = sa.heap.objs.size + 1 := by rw [← eP, Heap.size_push]
  generalize eR : P.push { cls := .type "list", dict := none, data := .seq ([] : List Value).toArray } = R at hns hsb ⊢
  have nR : R.objs.size = sa.heap.objs.size + 2 := by rw [← eR, Heap.size_push, nP]
  have dI : P.objs.size ≠ sa.heap.objs.size := by rw [nP]; exact Nat.succ_ne_self _
  have dC : P.objs.size ≠ R.objs.size := by rw [nP, nR]; exact Nat.ne_of_lt (Nat.lt_succ_self _)
  have iC : sa.heap.objs.size ≠ R.objs.size := by rw [nR]; exact Nat.ne_of_lt (Nat.lt_succ_of_lt (Nat.lt_succ_self _))
  have low : ∀ b, b < sa.heap.objs.size → b ≠ R.objs.size ∧ b ≠ sa.heap.objs.size ∧ b ≠ P.objs.size := fun b hb =>
    ⟨by rw [nR]; exact Nat.ne_of_lt (Nat.lt_succ_of_lt (Nat.lt_succ_of_lt hb)), Nat.ne_of_lt hb, by rw [nP]; exact Nat.ne_of_lt (Nat.lt_succ_of_lt hb)⟩
  have old : ∀ b o, sa.heap.get? b = some o → hz.get? b = some o := fun b o e => hsb.extBut b o (low b (Heap.lt_size e)).1 (Heap.get?_push_of_some _ (eR ▸ Heap.get?_push_of_some _ (eP ▸ Heap.get?_push_of_some _ e)))
  have hit : hz.IsListIter sa.heap.objs.size ax 0 := ⟨_, hsb.extBut _ _ iC (Heap.get?_push_of_some _ (eR ▸ Heap.get?_push_of_some _ (eP ▸ Heap.get?_push_size _ rfl))), rfl, rfl⟩
  have hacc : hz.PlainList P.objs.size #[] := ⟨_, hsb.extBut _ _ dC (Heap.get?_push_of_some _ (eR ▸ Heap.get?_push_size _ rfl))⟩
  have hlz : hz.IsList ax its := ⟨ol, old _ _ hol, hol'⟩
  have new : sa.heap.objs.size ≤ P.objs.size := by rw [nP]; exact Nat.le_succ _
  have loop : ∀ sb : Shared, sb = { sa with heap := hz, toks := sa.toks + ([] : List (Str × Value)).length } → codeAny (model prog w) A (.compLoop (.ListComp elt [⟨.Name x px, iter, [], 0⟩] scope pos) 0 (.ref sa.heap.objs.size) (.ref P.objs.size) (compEnv scope R.objs.size env))
      (fun r s' => ∃ m, s'.heap.Ns R.objs.size m ∧ ∀ h', Heap.SameBut R.objs.size s'.heap h' → match r with | .ok _ => Q (.ref P.objs.size) { s' with heap := h' } | .error x => wpAny (model prog w) A (passOn "comprehension.variables-let-go" x (compEnv scope R.objs.size env)) Q E { s' with heap := h' }) sb := by
    rintro sb rfl
    refine codeAny_compLoop_walk (hsz := hsz) (cenv := compEnv scope R.objs.size env) (walks_hot (o1 := o1) hh d1 c1 sa.heap.objs.size ax (Nat.ne_of_lt lt1) (Nat.ne_of_lt lta) its) (fun _ => true) F hx (by simp [compEnv, hkind]) dC
      (fun z => ?_) (fun z => ?_) ⟨⟨hit, hlz⟩, old _ _ g1⟩ hacc hns (fun i v sb mb hv hn hm hk _ => ?_) (fun i v sb mb hv _ hn hm hk _ => ?_) fun h' tk m' ys vs hn _ ha hlen hv hF hk => ?_
    · simp only [List.mem_cons, List.not_mem_nil, or_false] at z
      rcases z with z | z | z
      · exact dI z
      · exact (low ax lta).2.2 z.symm
      · exact (low x1 lt1).2.2 z.symm
    · simp only [List.mem_cons, List.not_mem_nil, or_false] at z
      rcases z with z | z | z
      · exact iC z.symm
      · exact (low ax lta).1 z.symm
      · exact (low x1 lt1).1 z.symm
    · exact wpAny_pure ⟨rfl, _, _, rfl, fun _ _ e => e⟩
    · have hvm : v ∈ its := by
        obtain ⟨hlt, e⟩ := Array.getElem?_eq_some_iff.mp hv
        rw [← e]; exact Array.getElem_mem hlt
      exact helt _ v sb mb _ hvm hn hm fun b o e => hk b o (low b (Heap.lt_size e)).1 (fun m => (low b (Heap.lt_size e)).2.1 (List.mem_singleton.mp m)) (low b (Heap.lt_size e)).2.2 (old b o e)
    · have ev : vs = its.toList := by
        refine List.ext_getElem (by rw [hlen, Array.length_toList]) fun j h1 h2 => ?_
        have e1 := hv j vs[j] (List.getElem?_eq_getElem h1)
        obtain ⟨hlt, e⟩ := Array.getElem?_eq_some_iff.mp e1
        rw [← e, Array.getElem_toList]
      rw [List.filter_eq_self.mpr (fun _ _ => rfl), ev] at hF
      refine ⟨m', hn, fun h'' hs'' => hQ _ h'' tk ys new ?_ hF fun b o e => hs''.extBut b o (low b (Heap.lt_size e)).1 (hk b o (low b (Heap.lt_size e)).1 (fun m => (low b (Heap.lt_size e)).2.1 (List.mem_singleton.mp m)) (low b (Heap.lt_size e)).2.2 (old b o e))⟩
      obtain ⟨n, e⟩ := ha
      exact ⟨n, hs''.extBut _ _ dC e⟩
  exact codeAny_compStart_list (loop _ rfl) (wpAny_pyIter_listiter hit (loop _ rfl))
end
end DL

namespace DL
open PySem PySem.Spec PyProof.Rows L2 HotX L2H
/-! ### the exception that is handled, as data of a context -/
structure HotE (X : Cx) (a D : Addr) (oe : Obj) : Prop where
  hd : X.A.handled = some (.ref a)
  pin : (a, oe) ∈ X.pn
  cls : Zc (.ref D) none oe
  ctx : ∃ vs : Array Value, oe.data = .fields vs ∧ vs[2]? = some .none
section
variable {X : Cx} {a D : Addr} {oe : Obj}
theorem HotE.at_ {pins : List (Addr × Obj)} {σ : L2.St} {H : Hp} {s : Shared} (h : HotE X a D oe) (I : Inv X pins σ H s) : HotAt X.A a s.heap := by
  obtain ⟨v, e1, e2⟩ := h.ctx
  exact ⟨h.hd, oe, v, (I.pin (a, oe) (List.mem_append_left _ h.pin)).1, e1, e2⟩
/-- isinstance(e, c) -/
theorem isE_hot (h : HotE X a D oe) (C : ExcC X.K D) : CallR X (.builtin "isinstance") (rIsE X.K D a) := by
  intro pins s σ H xs us Q I r q
  obtain ⟨c, cv, b, rfl, hcv, e, q⟩ := q
  cases r with
  | cons rx rr =>
    cases rr with
    | cons rt rr =>
      cases rr; cases rx
      obtain rfl := hcv _ rt
      obtain ⟨g, _⟩ := I.pin (a, oe) (List.mem_append_left _ h.pin)
      obtain ⟨v, hv, _⟩ := h.ctx
      have J : PySem.W.InstAt s.heap a oe D none := by
        have hz := h.cls
        obtain ⟨oc, od, oda, osl⟩ := oe
        obtain ⟨h1, h2⟩ := hz
        dsimp only at h1 h2 hv
        subst h1 h2 hv
        exact ⟨g, rfl, rfl, trivial⟩
      exact PySem.W.kia_one (PySem.W.handS_kitx_exc C.hg C.hk C.hs C.hd C.ha C.hn C.ht C.hm) I.kIn J e (fun z => nomatch z) fun tk => ⟨.bl b, H, I.kept (t' := tk) fun _ _ z => z, rfl, q⟩
/-- sum(xs) -/
theorem sumE_hot (h : HotE X a D oe) : CallR X (.builtin "sum") (rSum X.K) := by
  intro pins s σ H vs us Q I r q
  obtain ⟨l, ns, rfl, hs, q⟩ := q
  obtain ⟨its, rv, hl, _⟩ := I.list hs
  rw [Vals.ref1 r]
  exact sum_hot (h.at_ I) hl.isList rv.ints fun h' tk t' hk => ⟨.int _, H, I.kept hk, ⟨_, rfl⟩, q⟩
def b2 (b : Bool) : Int := if b then 1 else 0
/-- [int(x) for x in y], y a list of truths -/
theorem lcInt_hot (h : HotE X a D oe) {i : Nat} {x y : Str} {p1 p2 p3 p4 p5 pos : Pos} {scope : Scope} (hN : X.N[i]? = some y) (hv : Vis X.env.scope y) (hm : X.mg "int" = none)
    (hfree : ∀ z ∈ scope.names, z.2 ≠ .free) (hcell : ∀ z ∈ scope.names, z.2 ≠ .cell) (hkind : scope.kind = .function) (hnames : ∀ z ∈ scope.names, z.2 = .local → scope.names.lookup z.1 = some .local) (hx : scope.names.lookup x = some .local) (hint : scope.names.lookup ("int" : Str) = some .globalImplicit)
    (he : ∀ env : Env, starEach [.Name x p2] env = (false, eval (.Name x p2) env) :: starEach [] env := by intro _; rfl) (hd : (y == ("__debug__" : Str)) = false := by decide) (hcd : (y == ("__classdict__" : Str)) = false := by decide) (hdx : (x == ("__debug__" : Str)) = false := by decide) :
    PE X (.ListComp (.Call (.Name "int" p1) [.Name x p2] [] p3) [⟨.Name x p4, .Name y p5, [], 0⟩] scope pos) (fun σ H Q => ∃ (l : Addr) (bs : List Bool), σ[i]? = some (some (.ref l)) ∧ SqL X.K H l (bs.map V.bl) ∧ ∀ d, H d = none → Q (.ref d) (upd H d (.lst (bs.map fun b => V.int (b2 b))))) := by
  refine ⟨fun pins s σ H Q I q => ?_⟩
  obtain ⟨l, bs, e1, e2, q⟩ := q
  refine lc_hot (x1 := a) (fun v z => ∃ b t, v = .bool b ∧ z = .int (b2 b) t) h.hd hfree hcell hkind hnames hx (thn ((pe_var (pos := p5) hN hv hd hcd).run pins s σ H (fun v H1 => v = .ref l ∧ H1 = H) I ⟨_, e1, rfl, rfl⟩) fun u s1 ⟨v, H1, I1, r1, q1⟩ => ?_)
  obtain ⟨ev, eH⟩ := q1
  subst ev; rw [eH] at I1
  obtain rfl : u = Value.ref l := r1
  obtain ⟨its, rv, hl, hz⟩ := I1.list e2
  have ev := Vals.bls rv
  obtain ⟨_, o1, v1, g1, d1, c1⟩ := h.at_ I1
  refine ⟨l, its.toArray, o1, v1, rfl, hl.isList, by have := rv.length; rw [List.size_toArray]; omega, g1, d1, c1, fun C v sb mb E' hv' hn hmb hk => ?_, fun d h' tk ys hd' hp hF hk => ?_⟩
  · have hb : ∃ b, v = Value.bool b := by
      have hv' : v ∈ its := by simpa using hv'
      rw [ev] at hv'
      obtain ⟨b, _, e⟩ := List.mem_map.mp hv'
      exact ⟨b, e.symm⟩
    obtain ⟨b, rfl⟩ := hb
    obtain ⟨mB, h1, h2⟩ := I1.mod.blt
    have eg : (compEnv scope C X.env).globals = mainGlobals := I1.ok.glob
    have eb : (compEnv scope C X.env).builtins = builtinsNs := I1.ok.blt
    refine wpAny_Call_Name_kw (Calls.Name_function_global (env := compEnv scope C X.env) hkind hint (Calls.loadGlobal_builtin (v := .type "int") (by rw [eg]; exact (I1.mod.glob.keeps I1.bk).keeps hk) hm (by rw [eb]; exact (h1.keeps I1.bk).keeps hk) ((h2 "int" (by decide)).trans bt_int) ?_) (by decide))
    refine PyProof.Rows.callWith_type1 ?_ (he _) rfl
    show wpAny _ _ (spliced ((false, eval (.Name x p2) (compEnv scope C X.env)) :: backTo p3 (starEach [] (compEnv scope C X.env)))) _ _ sb
    refine Calls.spliced_cons (wpAny_Name (wpAny_loadName_local hkind hx hn hmb (Calls.spliced_nil ?_)) hdx)
    exact call_int_bool ⟨⟨b, _, rfl, rfl⟩, _, _, rfl, fun _ _ e => e⟩
  · refine ⟨.ref d, upd H d (.lst (bs.map fun b => V.int (b2 b))), ?_, rfl, q d (I1.hok.fresh hd')⟩
    obtain ⟨n, e⟩ := hp
    have hvs : ∀ {bs : List Bool} {ws : List Value}, Paired (fun v z => ∃ b t, v = Value.bool b ∧ z = .int (b2 b) t) (bs.map Value.bool) ws → Vals (bs.map fun b => V.int (b2 b)) ws := by
      intro bs
      induction bs with
      | nil => intro ws hp; cases hp; exact .nil
      | cons b bs ih =>
        intro ws hp
        cases hp with
        | cons r t =>
          obtain ⟨b', t', e1, rfl⟩ := r
          cases e1
          exact .cons ⟨t', rfl⟩ (ih t)
    rw [List.toList_toArray, ev] at hF
    refine I1.laid hk hd' ⟨?_, ys.toList, n, hvs hF, by rw [Array.toArray_toList]; exact e⟩
    rw [List.length_map] at hz ⊢; exact hz
end
end DL

namespace DL
open PySem PySem.Spec PyProof.Rows L2 HotX L2H
/-! ### a def called with the exception that is handled -/
section
variable {X : Cx} {a D : Addr} {oe : Obj}
theorem HotE.in_ {CX : CXT} {P : Program} {w : World} {K : PySem.W.Frag} {mg : Str → Option Value} {base : Heap} {N : List Str} {qual : Str} {scope : Scope} {f : Addr} {cd : Value} {outer : List Env} {s : Shared} {H : Hp} {E : XK} (h : HotE X a D oe) :
    HotE (cxH CX P w K mg base N qual scope f cd X.A outer s H E (a, oe)) a D oe := ⟨h.hd, List.mem_singleton.mpr rfl, h.cls, h.ctx⟩
theorem pe_callHot {k : Nat} {f : Addr} {name : Str} {params : Arguments} {body : List Stmt} {scope : Scope} {dV kV doc pm cdv ct oc : Value} {an od : Option Addr} {osl : Array (Option Value)} {N : List Str} {y x : Str} {q pos : Pos} {e : Expr} {t : TA} {TT : Hp → VK → Prop} (h : HotE X a D oe)
    (lk : X.K.lookup f = some ⟨oc, od, .func (PySem.W.fnOf name name params body scope dV kV doc pm an cdv ct), osl⟩) (hcd : PySem.W.codeIn X.K cdv name = true) (S : FnScope N [y] scope) (hr : RoomH (k + 1) X.A) (hg : Gl X x) (hm : X.mg x = some (.ref f)) (hk : PySem.W.keepIn X.K (.ref f) = true)
    (hb : Binds X.K (PySem.W.fnOf name name params body scope dV kV doc pm an cdv ct) [y] []) (ha : PA X [e] t)
    (hbody : ∀ (s : Shared) (H : Hp) (Q : VK), RoomH k (X.A.deeper (envOfC name scope s.heap.objs.size f cdv)) → TT H Q → ∃ t', PSs (cxH C8.CX0 X.prog X.w X.K X.mg X.base N name scope f cdv X.A X.stack s H C8.E0 (a, oe)) body t' ∧ t' { nx := fun _ H' => Q .non H', rt := Q } (L2.start N [.ref a]) H)
    (hdb : (x == ("__debug__" : Str)) = false := by decide) (he : starEach [e] X.env = (false, eval e X.env) :: starEach [] X.env := by rfl) : PE X (.Call (.Name x q) [e] [] pos) (fun σ H Q => t σ H fun vs H1 => vs = [.ref a] ∧ TT H1 Q) := by
  refine ⟨fun pins s σ H Q I hh => wpAny_Call_Name_kw (ld_glob I hg hm (PySem.W.callWith_K (h₀ := X.base) I.ok.mod.kin hk (thn (ha.run pos pins s σ H _ I hh) fun us s1 ⟨vs, H1, I1, r, ev, q⟩ => ⟨I1.kIn, ?_⟩) he rfl) hdb)⟩
  subst ev
  obtain rfl := Vals.ref1 r
  have P1 := I1.pin (a, oe) (List.mem_append_left _ h.pin)
  have pin : PinOk X.stack H1 s1 (a, oe) := ⟨P1.1, P1.2.1, fun hm => (List.mem_cons.mp (I1.stkSub a hm)).elim P1.2.2.1 P1.2.2.2.1, P1.2.2.2.2⟩
  have e0 := I1.env0
  have bi := hb s1 [.ref a] I1.kIn rfl
  rw [List.append_nil] at bi
  have KX : X.K.In s1.heap := I1.kIn
  have hkd : ∀ z ∈ [y].zip [Value.ref a], scope.names.lookup z.1 = some .local ∨ (scope.names.lookup z.1 = some .cell ∧ ((cellsFrom (s1.heap.objs.size + 1) scope.names []).lookup z.1).isSome = true) := fun ⟨n, v⟩ hz =>
    (S.par n (List.of_mem_zip hz).1).imp id fun q => ⟨q, PySem.W.cellsFrom_some _ _ _ (.inl q)⟩
  have rc : codeAny (model X.prog X.w) X.A (.call (.ref f) ⟨[.ref a], []⟩) (CR C8.CX0 X.stack X.prog X.w H1 s1 Q C8.E0) s1 := by
    refine codeAny_call_function hr.depth (KX _ _ lk) rfl S.co S.gen rfl (PySem.W.codeRec_of KX hcd) (bi _ _ _ _ (wpAny_newFunctionEnv_cells S.kind hkd fun env hv s2 x => ?_))
    subst hv
    refine ⟨(e0.mod.nolimit.keeps fun b o e => (e0.bs b o e).1).keeps x.toInCall.keep, codeAny_func ?_⟩
    obtain ⟨t', ht, hq⟩ := hbody s1 H1 Q (hr.deeper _) q
    have J0 : Inv (cxH C8.CX0 X.prog X.w X.K X.mg X.base N name scope f cdv X.A X.stack s1 H1 C8.E0 (a, oe)) [] (L2.start N [.ref a]) H1 s2 := inv_startH (us := [.ref a]) S pin e0 rfl (.cons rfl .nil) x
    refine wpAny_mono (ht.run [] s2 (L2.start N [.ref a]) H1 _ J0 hq) (fun fl s' hs => ?_) fun e s' hs => hs
    cases fl with
    | ret u => obtain ⟨v, σ', H', J, rv, q⟩ := hs; exact ⟨v, H', J.os, J.bare, J.base, J.hok, rv, q⟩
    | next => obtain ⟨σ', H', J, q⟩ := hs; exact ⟨V.non, H', J.os, J.bare, J.base, J.hok, rfl, q⟩
    | brk => obtain ⟨_, _, _, q⟩ := hs; exact q.elim
    | cont => obtain ⟨_, _, _, q⟩ := hs; exact q.elim
  refine wpAny_call (codeAny_mono rc fun r s2 hq => ?_)
  cases r with
  | error e => exact (show False from hq).elim
  | ok fl =>
    cases fl with
    | ret u => exact I1.after hq
    | _ => exact False.elim hq
end
end DL

namespace DL
open PySem PySem.Spec PyProof.Rows L2 HotX L2H
/-! ### the refusals' classes -/
def exOne (K : PySem.W.Frag) (C : Addr) : Bool :=
  PySem.W.excIn K C He.veBase "ValueError.__new__" && PySem.W.keepIn K (.ref C) && decide (PySem.W.subIn K (.ref C) (.type "BaseException") = some true) && decide (PySem.W.typeIn K (.ref C) = some (.type "type")) &&
  He.eqO (PySem.W.findIn K (.ref C) "__getattribute__") (some (some (.builtin "BaseException.__getattribute__"))) && He.eqO (PySem.W.findIn K (.ref C) "__getattr__") (some none) && PySem.W.hasDictIn K C &&
  He.eqO (PySem.W.findIn K (.ref C) "__class__") (some (some (.builtin "object.__class__"))) && decide (PySem.W.mroIn K C (.type "object") = some true) && decide (PySem.W.kitOne K (.ref C) (.type "ValueError") = some true) &&
  decide (PySem.W.exmOne K (.ref C) (.ref (He.ga K "CallError")) = some true)
def exB (cs : List Str) (K : PySem.W.Frag) : Bool :=
  He.eqO (PySem.W.specialIn K (.builtin "object.__class__") "__get__") (some (some (.builtin "getset_descriptor.__get__"))) && decide (PySem.W.takesIn K (.builtin "object.__class__") = some true) &&
  (cs.all fun c => exOne K (He.ga K c)) && cs.all fun c => cs.all fun d => decide (PySem.W.kitOne K (.ref (He.ga K c)) (.ref (He.ga K d)) = some (decide (c = d)))
structure ExFacts (K : PySem.W.Frag) (C : Addr) : Prop where
  exc : PySem.W.excIn K C He.veBase "ValueError.__new__" = true
  keep : PySem.W.keepIn K (.ref C) = true
  sub : PySem.W.subIn K (.ref C) (.type "BaseException") = some true
  typ : PySem.W.typeIn K (.ref C) = some (.type "type")
  ec : ExcC K C
  ve : PySem.W.kitOne K (.ref C) (.type "ValueError") = some true
  exm : PySem.W.exmOne K (.ref C) (.ref (He.ga K "CallError")) = some true
structure ExTab (cs : List Str) (K : PySem.W.Frag) : Prop where
  one : ∀ c ∈ cs, ExFacts K (He.ga K c)
  kit : ∀ c ∈ cs, ∀ d ∈ cs, PySem.W.kitOne K (.ref (He.ga K c)) (.ref (He.ga K d)) = some (decide (c = d))
theorem exB_ok {cs : List Str} {K : PySem.W.Frag} (h : exB cs K = true) : ExTab cs K := by
  unfold exB at h
  simp only [Bool.and_eq_true, List.all_eq_true, decide_eq_true_eq] at h
  obtain ⟨⟨⟨h1, h2⟩, h3⟩, h4⟩ := h
  refine ⟨fun c hc => ?_, h4⟩
  have q := h3 c hc
  unfold exOne at q
  simp only [Bool.and_eq_true, decide_eq_true_eq] at q
  obtain ⟨⟨⟨⟨⟨⟨⟨⟨⟨⟨q1, q2⟩, q3⟩, q4⟩, q5⟩, q6⟩, q7⟩, q8⟩, q9⟩, q10⟩, q11⟩ := q
  exact ⟨q1, q2, q3, q4, ⟨He.eqO_ok q5, He.eqO_ok q6, q3, q7, He.eqO_ok q8, He.eqO_ok h1, h2, q9⟩, q10, q11⟩
/-! ### readings of _law_word's parts -/
section
variable {K : PySem.W.Frag} {C D a : Addr} {σ : L2.St} {H : Hp} {Q : VK} {b : Bool}
theorem is_rd (h0 : σ[0]? = some (some (.ref a))) (k : PySem.W.kitOne K (.ref D) (.ref C) = some b) (q : Q (.bl b) H) : tCB (rIsE K D a) (tCons (tVar 0) (tCons (tC (.ref C)) tNil)) σ H Q :=
  ⟨.ref a, h0, .ref C, .ref C, b, rfl, fun _ r => r, k, q⟩
theorem is_rdT {T : String} (h0 : σ[0]? = some (some (.ref a))) (k : PySem.W.kitOne K (.ref D) (.type T) = some b) (q : Q (.bl b) H) : tCB (rIsE K D a) (tCons (tVar 0) (tCons (tC (.ty T)) tNil)) σ H Q :=
  ⟨.ref a, h0, .ty T, .type T, b, rfl, fun _ r => r, k, q⟩
end
end DL

namespace DL
open PySem PySem.Spec PyProof.Rows L2 HotX L2H LamX
variable [TabCtx]
/-! ### raise -/
abbrev WT (ca : Str → Addr) (W : WN) : WX := fun cls d _ H => ∃ c, cls = .ref (ca c) ∧ d = none ∧ W c H
theorem take_body {P : Program} {w : World} {K : PySem.W.Frag} {mg : Str → Option Value} {base : Heap} {ca : Str → Addr} {N : List Str} {qual : Str} {scope : Scope} {f : Addr} {cdv : Value} {A : Around} {outer : List Env} {s : Shared} {H : Hp} {E : XK} :
    L2N.Takes (cxOf (L2N.CX P w) P w K mg base N qual scope f cdv A outer s H E) (WT ca (DL.WE ca E)) :=
  (L2N.takes_of (X := cxOf (L2N.CX P w) P w K mg base N qual scope f cdv A outer s H E) (E := E) rfl rfl rfl rfl).imp fun cls d σ H ⟨c, e1, e2, h⟩ => by subst e1 e2; exact h
def sRs (c : Str) : Cs → OS := fun _ => .exc c
theorem ds_raise {X : Cx} {W : WN} {ca : Str → Addr} (c : Str) {m : Str} {j : Nat} {p p2 p3 pos : Pos} (hcm : X.calm = true) (tk : L2N.Takes X (WT ca W)) (F : ExFacts X.K (ca c)) (hm : X.mg c = some (.ref (ca c))) (hg : Gl X c) (hdb : (c == ("__debug__" : Str)) = false := by decide) :
    DS X W (.Raise (some (.Call (.Name c p) [.Constant (.str m) j p2] [] p3)) none pos) (sRs c) := by
  intro H0 F0 env F' σ H D R q
  refine PS.sem (L2N.ps_raise hcm tk (L2N.pmk_own PySem.F.excBase_ValueError F.exc hm F.keep (raises_own F.sub F.typ) hg hdb)) ?_
  exact ⟨c, rfl, rfl, q H R.h0⟩
/-! ### a lambda, called by the def that got it -/
abbrev lamXe (X : Cx) (A : Around) (outer : List Env) (s : Shared) (H : Hp) (E : XK) (scope : Scope) (f c' : Addr) : Value → Shared → Prop := fun e s' => wpAny (model X.prog X.w) (A.deeper (lamEnv X scope s.heap.objs.size f c')) (leaving (lamEnv X scope s.heap.objs.size f c') e) (fun _ z => L2N.CX X.prog X.w outer H s E e z) (fun e' z => L2N.CX X.prog X.w outer H s E e' z) s'
/-- the context of its body -/
abbrev lamN (X : Cx) (A : Around) (outer : List Env) (s : Shared) (H : Hp) (E : XK) (scope : Scope) (f c' : Addr) : Cx := (lamCx X A outer s H E scope f c').tr [] (lamXe X A outer s H E scope f c')
section
variable {X : Cx} {pins : List (Addr × Obj)} {σ : L2.St} {H : Hp} {s : Shared}
theorem actN {Ng : List Str} {qg : Str} {sg : Scope} {g f c' : Addr} {cdg pm ctv : Value} {params : Arguments} {body : Expr} {scope : Scope} {k i : Nat} {a : Str} {pn : List (Addr × Obj)} {xe : Value → Shared → Prop} {W : WX} {E : XK} {tb : TE} {p1 p2 : Pos}
    (I : Inv X pins σ H s) (L : LamS X.env.scope scope) (hf : s.heap.get? f = some (PySem.W.kla_obj "<lambda>" (X.env.qual ++ "<lambda>") params body scope (cloFrom X.env.cells scope.names []) pm c' ctv)) (hfn : H f = none) (hfr : f ∉ frs X.stack)
    (hbind : bindArgs (PySem.W.kla_fn "<lambda>" (X.env.qual ++ "<lambda>") params body scope (cloFrom X.env.cells scope.names []) pm (.ref c') ctv) ⟨[], []⟩ = pure [])
    (tk : L2N.Takes ((cxOf C8.CX0 X.prog X.w X.K X.mg X.base Ng qg sg g cdg X.A X.stack s H C8.E0).tr pn xe) W) (hW : ∀ cls d σ' H', E cls d H' → W cls d σ' H') (hr : Room (k + 1) (X.A.deeper (envOfC qg sg s.heap.objs.size g cdg)))
    (hbody : ∀ (A : Around) (outer : List Env) (s : Shared) (H : Hp), Room k (A.deeper (lamEnv X scope s.heap.objs.size f c')) → PE (lamN X A outer s H E scope f c') body tb)
    (hN : Ng[i]? = some a) (hv : Vis sg a) (hd : (a == ("__debug__" : Str)) = false := by decide) (hcd : (a == ("__classdict__" : Str)) = false := by decide) :
    PE ((cxOf C8.CX0 X.prog X.w X.K X.mg X.base Ng qg sg g cdg X.A X.stack s H C8.E0).tr pn xe) (.Call (.Name a p1) [] [] p2) (fun σZ HZ Q => σZ[i]? = some (some (.ref f)) ∧ HZ c' = some (CodeO c' (X.env.qual ++ "<lambda>")) ∧ tb σ HZ Q) := by
  refine ⟨fun pinsZ sZ σZ HZ Q IZ ⟨hs, hc, ht⟩ => wpAny_Call_Name_kw (thn ((pe_var (pos := p1) (i := i) hN hv hd hcd).run pinsZ sZ σZ HZ (fun v H1 => v = .ref f ∧ H1 = HZ) IZ ⟨.ref f, hs, rfl, rfl⟩) fun u s1 ⟨v, H1, I1, r1, ev, eH⟩ => ?_)⟩
  subst ev; rw [eH] at I1
  obtain rfl : u = Value.ref f := r1
  have of1 := I1.base.keep f _ hf hfn hfr (fun z => nomatch (show f ∈ ([] : List Addr) from z))
  refine PySem.W.callWith_F0 ⟨_, _, _, _, of1⟩ ?_
  obtain ⟨⟨oc, vs, t, hoc, hdc, hvc⟩, _, _⟩ := I1.hok c' _ hc
  have rc : codeAny (model X.prog X.w) (X.A.deeper (envOfC qg sg s.heap.objs.size g cdg)) (.call (.ref f) ⟨[], []⟩) (CR (L2N.CX X.prog X.w) (envOfC qg sg s.heap.objs.size g cdg :: X.stack) X.prog X.w HZ s1 Q E) s1 := by
    refine PySem.W.kla_callFunE hr.depth of1 rfl L.co L.gen rfl ⟨c', oc, vs, t, rfl, hoc, hdc, hvc⟩ ?_; rw [hbind]; refine wpAny_pure (wpAny_newFunctionEnv (fun y hy => (L.own y hy).2) (fun y hy => absurd hy (by simp)) (fun h₁ hns hsb => ⟨I1.nolimit.fresh _ hsb, ?_⟩) L.kind)
    show codeAny _ _ (.expr body (lamEnv X scope s1.heap.objs.size f c')) _ _
    have kp : ∀ b o, s1.heap.get? b = some o → h₁.get? b = some o := fun b o e => hsb.extBut b o (Nat.ne_of_lt (Heap.lt_size e)) (Heap.get?_push_of_some _ e)
    have J0 := lam_start2 (E := E) (f := f) (c' := c') (tk := s1.toks + ([] : List (Str × Value)).length) I L I1.env0 hr.hd I1.base hns kp
    have J : Inv (lamN X (X.A.deeper (envOfC qg sg s.heap.objs.size g cdg)) (envOfC qg sg s.heap.objs.size g cdg :: X.stack) s1 HZ E scope f c') [] σ HZ { s1 with heap := h₁, toks := s1.toks + ([] : List (Str × Value)).length } := J0.toTry _
    refine PySem.W.kla_codeExpr (wpAny_mono ((hbody _ _ s1 HZ (hr.deeper _)).run [] _ _ HZ Q J ht) (fun v s' hq => ?_) fun e s' hq => hq)
    obtain ⟨w', H', J', rv, q⟩ := hq; exact ⟨w', H', J'.os, J'.bare, J'.base, J'.hok, rv, q⟩
  have hx : Passes (L2N.CX X.prog X.w) ((cxOf C8.CX0 X.prog X.w X.K X.mg X.base Ng qg sg g cdg X.A X.stack s H C8.E0).tr pn xe) E := L2N.passes_call tk hW
  refine wpAny_call (codeAny_mono rc fun r s' hq => ?_)
  cases r with
  | error e => exact hx pinsZ σZ HZ s1 e s' I1 hq
  | ok fl =>
    cases fl with
    | ret u => exact I1.after hq
    | _ => exact False.elim hq
end
/-- what a def makes of the lambda that it gets (its own name for it: a) -/
def GivesN (X : Cx) (Ng : List Str) (x : Str) (sg : Scope) (g : Addr) (cdg : Value) (bg : List Stmt) (a : Str) (q : Str) (k : Nat) (TT : (XK → Hp → VK → Prop) → Hp → VK → Prop) : Prop :=
  ∀ (f c' : Addr) (s : Shared) (H : Hp) (Q : VK) (tl : XK → Hp → VK → Prop), Room (k + 1) (X.A.deeper (envOfC x sg s.heap.objs.size g cdg)) →
    (∀ (W : WX) (pn : List (Addr × Obj)) (xe : Value → Shared → Prop) (E : XK) (p1 p2 : Pos), L2N.Takes ((cxOf C8.CX0 X.prog X.w X.K X.mg X.base Ng x sg g cdg X.A X.stack s H C8.E0).tr pn xe) W → (∀ cls d σ' H', E cls d H' → W cls d σ' H') →
      PE ((cxOf C8.CX0 X.prog X.w X.K X.mg X.base Ng x sg g cdg X.A X.stack s H C8.E0).tr pn xe) (.Call (.Name a p1) [] [] p2) (fun σZ HZ Q => σZ[0]? = some (some (.ref f)) ∧ HZ c' = some (CodeO c' q) ∧ tl E HZ Q)) →
    H c' = some (CodeO c' q) → TT tl H Q →
    ∃ t, PSs (cxOf C8.CX0 X.prog X.w X.K X.mg X.base Ng x sg g cdg X.A X.stack s H C8.E0).nox bg t ∧ t { nx := fun _ H' => Q .non H', rt := Q } (L2.start Ng [.ref f]) H
section
variable {X : Cx}
/-- x(lambda: body) -/
theorem pe_lamN {TT : (XK → Hp → VK → Prop) → Hp → VK → Prop} {x a : Str} {g c P : Addr} {k : Nat} {pg : Arguments} {bg : List Stmt} {sg : Scope} {dV kV doc pm cdv ct oc : Value} {an od : Option Addr} {osl : Array (Option Value)} {Ng : List Str}
    {params : Arguments} {body : Expr} {scope : Scope} {t : XK → TE} {p lpos pos : Pos} (hg : Gl X x) (hm : X.mg x = some (.ref g)) (hk : PySem.W.keepIn X.K (.ref g) = true)
    (lk : X.K.lookup g = some ⟨oc, od, .func (PySem.W.fnOf x x pg bg sg dV kV doc pm an cdv ct), osl⟩) (hcg : PySem.W.codeIn X.K cdv x = true) (hb : L2.Binds X.K (PySem.W.fnOf x x pg bg sg dV kV doc pm an cdv ct) [a] []) (Sg : FnScope Ng [a] sg) (hNg : Ng[0]? = some a) (hva : Vis sg a)
    (hG : GivesN X Ng x sg g cdv bg a (X.env.qual ++ "<lambda>") k TT)
    (TB : TabB X.base X.mg c P) (hcode : X.env.code = .ref c) (hmT : (P, X.env.qual ++ "<lambda>") ∈ TabCtx.T) (hu : ∀ p ∈ TabCtx.T, p.1 = P → p.2 = X.env.qual ++ "<lambda>") (hr : Room (k + 2) X.A) (L : LamS X.env.scope scope) (hdef : defaultsOf params X.env = ([], []))
    (hbind : ∀ (q : Str) (cl : List (Str × Addr)) (pm cv ctv : Value), bindArgs (PySem.W.kla_fn "<lambda>" q params body scope cl pm cv ctv) ⟨[], []⟩ = pure [])
    (hbody : ∀ (A : Around) (outer : List Env) (s : Shared) (H : Hp) (E : XK) (f c' : Addr), Room k (A.deeper (lamEnv X scope s.heap.objs.size f c')) → PE (lamN X A outer s H E scope f c') body (t E))
    (hdb : (x == ("__debug__" : Str)) = false := by decide) (hd : (a == ("__debug__" : Str)) = false := by decide) (hcd : (a == ("__classdict__" : Str)) = false := by decide) :
    PE X (.Call (.Name x p) [.Lambda params body scope lpos] [] pos) (tLam TabCtx.T TT t) := by
  refine ⟨fun pins s σ H Q I ⟨hT, h⟩ => wpAny_Call_Name_kw (ld_glob I hg hm (PySem.W.callWith_K (h₀ := X.base) I.ok.mod.kin hk ?_ (by rfl) (by rfl)) hdb)⟩
  refine (show wpAny _ _ (spliced ((false, eval (.Lambda params body scope lpos) X.env) :: backTo pos (starEach [] X.env))) _ _ s from Calls.spliced_cons (lam_make2 I TB hcode hmT hu hT hdef (L.has I.ok) fun f c' pm' ctv H1 s' I1 eN T1 hf hfn hfr hco => Calls.spliced_nil ⟨I1.kIn, ?_⟩))
  have rc : codeAny (model X.prog X.w) X.A (.call (.ref g) ⟨[.ref f], []⟩) (CR C8.CX0 X.stack X.prog X.w H1 s' Q C8.E0) s' := by
    refine run_ofS (N := Ng) (ps := [a]) (us := [.ref f]) (vs := [.ref f]) lk hcg Sg hr I1.env0 (hb s' [.ref f] I1.kIn rfl) (.cons rfl .nil) rfl fun hq => ?_
    obtain ⟨t', ht', hq'⟩ := hG f c' s' H1 Q (fun E H' Q' => t E σ H' Q') hq (fun W pn xe E p1 p2 tk hW => actN (i := 0) I1 L hf hfn hfr (hbind _ _ _ _ _) tk hW hq (fun A outer s H hr2 => hbody A outer s H E f c' hr2) hNg hva hd hcd) hco (h H1 eN T1)
    exact ⟨t', ht'.nox, hq'⟩
  refine wpAny_call (codeAny_mono rc fun r s2 hq => ?_)
  cases r with
  | error e => exact (show False from hq).elim
  | ok fl =>
    cases fl with
    | ret u => exact I1.after hq
    | _ => exact False.elim hq
theorem takesN0 {X : Cx} : L2N.Takes X (fun _ _ _ _ => False) := fun _ _ x => by
  obtain ⟨_, _, _, _, _, _, _, _, _, _, _, _, _, _, _, _, z⟩ := x
  exact z.elim
/-- a refusal of one of the classes cs gives its class's name -/
def TWord (cs : List Str) (K : PySem.W.Frag) : (XK → Hp → VK → Prop) → Hp → VK → Prop := fun tl H Q => tl (fun cls d H' => ∃ c ∈ cs, cls = .ref (He.ga K c) ∧ d = none ∧ ∀ G, Same H' G → Q (.str c) G) H Q
end
end DL

namespace DL
open PySem PySem.Spec PyProof.Rows L2 HotX L2H LamX
variable [TabCtx]
theorem eS.ghb {X : Cx} {e : Expr} {σ : L2.St} {H : Hp} {Q : VK} (g : Gh (fun H' => eS X e σ H' Q) H) : eS X e σ H Q := .mk fun pins s I => by
  obtain ⟨H', I', q⟩ := g.run I
  exact q.out pins s I'
/-! ### names that a lambda captures become the fixed part's -/
def gCap : List Nat → Cs → Out Unit
  | [], env => .ok () env
  | i :: is, env => (settle env (.loc i)).bind fun _ env1 => gCap is env1
theorem gCap_ok {K : PySem.W.Frag} {H0 F0 : Hp} {ts : List (Addr × D)} {σ : L2.St} : ∀ (is : List Nat) {env env1 : Cs} {F H : Hp}, Rs K H0 F0 ts env F σ H → gCap is env = .ok () env1 → Gh (fun H' => ∃ F', Same F F' ∧ Rs K H0 F0 ts env1 F' σ H') H
  | [], env, env1, F, H, R, e => by cases e; exact .done ⟨F, .refl _, R⟩
  | i :: is, env, env1, F, H, R, e => by
    rw [gCap] at e
    cases q : settle env (.loc i) with
    | stuck => rw [q] at e; cases e
    | exc c => rw [q] at e; cases e
    | ok d env2 =>
      rw [q] at e
      have e : gCap is env2 = .ok () env1 := e
      have hv : ∃ v, σ[i]? = some (some v) := by
        dsimp only [settle] at q
        split at q
        · rename_i d' hi
          obtain ⟨a, e1, _⟩ := R.cells i _ hi
          exact ⟨_, e1⟩
        · rename_i d' hi
          obtain ⟨v, e1, _⟩ := R.cells i _ hi
          exact ⟨_, e1⟩
        · cases q
      obtain ⟨v, hv⟩ := hv
      refine (Held.settle (r := .loc i) (v := v) R hv q).bind fun H1 ⟨F1, s1, R1, _⟩ => ?_
      exact (gCap_ok is R1 e).imp fun H2 ⟨F2, s2, R2⟩ => ⟨F2, s1.trans s2, R2⟩
def maskC : Cell → Cell
  | .own _ => .un
  | c => c
def mask (env : Cs) : Cs := env.map maskC
theorem Rs.mask {K : PySem.W.Frag} {H0 F0 : Hp} {ts : List (Addr × D)} {σ : L2.St} {env : Cs} {F H : Hp} (R : Rs K H0 F0 ts env F σ H) : Rs K H F [] (DL.mask env) F σ H where
  fh := R.fh
  h0 := .refl _
  tb := R.tb
  nf := R.nf
  f0 := .refl _
  nw := fun _ h => .inl h
  len := by unfold DL.mask; rw [List.length_map]; exact R.len
  cells := fun i c e => by
    unfold DL.mask at e
    rw [List.getElem?_map] at e
    cases q : env[i]? with
    | none => rw [q] at e; cases e
    | some c0 =>
      rw [q] at e
      cases e
      have z := R.cells i c0 q
      cases c0 with
      | un => trivial
      | frz d => exact z
      | own d => trivial
  dj := fun i j d d' a e => by
    unfold DL.mask at e
    rw [List.getElem?_map] at e
    cases q : env[i]? with
    | none => rw [q] at e; cases e
    | some c0 => rw [q] at e; cases c0 <;> cases e
  tmp := fun p hp => by cases hp
  tnd := List.nodup_nil
  tdj := fun i d a e => by
    unfold DL.mask at e
    rw [List.getElem?_map] at e
    cases q : env[i]? with
    | none => rw [q] at e; cases e
    | some c0 => rw [q] at e; cases c0 <;> cases e
theorem kp_lam {H H1 : Hp} (e : ExtN H H1) (t : TabsH H1) : Kp H H1 := ⟨e, fun _ => t⟩
def toldR (cs : List Str) (env1 : Cs) : Out RV → Out RV
  | .stuck => .stuck
  | .exc c => if c ∈ cs then .ok (.frz (.str c)) env1 else .stuck
  | .ok (.frz d) _ => .ok (.frz d) env1
  | .ok (.tmp d) _ => .ok (.tmp d) env1
  | .ok (.loc i) env2 => match env2[i]? with
    | some (.frz d) => .ok (.frz d) env1
    | _ => .stuck
def gTold (cs : List Str) (is : List Nat) (gb : Cs → Out RV) : Cs → Out RV := fun env => (gCap is env).bind fun _ env1 => toldR cs env1 (gb (mask env1))
section
variable {X : Cx} {W : WN}
theorem de_told {cs : List Str} (is : List Nat) {gb : Cs → Out RV} {x a : Str} {g c P : Addr} {k : Nat} {pg : Arguments} {bg : List Stmt} {sg : Scope} {fd : FuncData} {Ng : List Str}
    {params : Arguments} {body : Expr} {scope : Scope} {p lpos pos : Pos} (hg : Gl X x) (hm : X.mg x = some (.ref g)) (Fg : FunD X.K x x pg bg sg [] [] g fd) (hb : L2.Binds X.K fd [a] []) (Sg : FnScope Ng [a] sg) (hNg : Ng[0]? = some a) (hva : Vis sg a)
    (hG : ∀ cdv : Value, GivesN X Ng x sg g cdv bg a (X.env.qual ++ "<lambda>") k (TWord cs X.K))
    (TB : TabB X.base X.mg c P) (hcode : X.env.code = .ref c) (hmT : (P, X.env.qual ++ "<lambda>") ∈ TabCtx.T) (hu : ∀ p ∈ TabCtx.T, p.1 = P → p.2 = X.env.qual ++ "<lambda>") (hr : Room (k + 2) X.A) (L : LamS X.env.scope scope) (hdef : defaultsOf params X.env = ([], []))
    (hbind : ∀ (q : Str) (cl : List (Str × Addr)) (pm cv ctv : Value), bindArgs (PySem.W.kla_fn "<lambda>" q params body scope cl pm cv ctv) ⟨[], []⟩ = pure [])
    (hbody : ∀ (A : Around) (outer : List Env) (s : Shared) (H : Hp) (E : XK) (f c' : Addr), Room k (A.deeper (lamEnv X scope s.heap.objs.size f c')) → DE (lamN X A outer s H E scope f c') (DL.WE (He.ga X.K) E) body gb)
    (hdb : (x == ("__debug__" : Str)) = false := by decide) (hd : (a == ("__debug__" : Str)) = false := by decide) (hcd : (a == ("__classdict__" : Str)) = false := by decide) :
    DE X W (.Call (.Name x p) [.Lambda params body scope lpos] [] pos) (gTold cs is gb) := by
  obtain ⟨oc, od, dV, kV, doc, pm, an, cdv, ct, osl, rfl, lk, hcg, _, _⟩ := Fg.ex
  intro H0 F0 ts env F σ H Q R q
  unfold gTold at q
  cases z : gCap is env with
  | stuck => rw [z] at q; exact q.elim
  | exc e =>
    exfalso
    clear q R
    induction is generalizing env with
    | nil => cases z
    | cons i is ih =>
      rw [gCap] at z
      cases y : settle env (.loc i) with
      | stuck => rw [y] at z; cases z
      | exc _ => dsimp only [settle] at y; split at y <;> cases y
      | ok d env2 => rw [y] at z; exact ih env2 z
  | ok u env1 =>
    rw [z] at q
    have q : PoE X.K W H0 F0 ts F σ Q (toldR cs env1 (gb (mask env1))) := q
    refine eS.ghb ((gCap_ok is R z).imp fun H1 ⟨F1, s1, R1⟩ => ?_)
    let tB : XK → TE := fun E σ H Q => ∀ (A : Around) (outer : List Env) (s : Shared) (H' : Hp) (f c' : Addr), Room k (A.deeper (lamEnv X scope s.heap.objs.size f c')) → eS (lamN X A outer s H' E scope f c') body σ H Q
    refine PE.sem (pe_lamN (t := tB) hg hm Fg.kp lk hcg hb Sg hNg hva (hG cdv) TB hcode hmT hu hr L hdef hbind (fun A outer s H E f c' hr => ⟨fun pins s' σ' H' Q' I h => (h A outer s H f c' hr).out pins s' I⟩) hdb hd hcd) ?_
    refine ⟨R1.tb, fun H2 eN T2 A outer s H' f c' hr' => ?_⟩
    have k12 : Kp H1 H2 := kp_lam eN T2
    have R2 : Rs X.K H0 F0 ts env1 F1 σ H2 := R1.ext ⟨k12, id, .refl _, k12.same R1.fh R1.nf, fun _ h => .inl h⟩
    refine hbody A outer s H' _ f c' hr' H2 F1 [] (mask env1) F1 σ H2 Q R2.mask ?_
    cases y : gb (mask env1) with
    | stuck => rw [y] at q; exact q.elim
    | exc e =>
      rw [y] at q
      have q : PoE X.K W H0 F0 ts F σ Q (if e ∈ cs then .ok (.frz (.str e)) env1 else .stuck) := q
      by_cases he : e ∈ cs
      · rw [if_pos he] at q
        intro G kG
        refine ⟨e, he, rfl, rfl, fun G' sG => ?_⟩
        have k2 : Kp H2 G' := kG.trans (.of sG)
        exact q (.str e) F1 G' (R2.ext ⟨k2, id, .refl _, k2.same R2.fh R2.nf, fun _ h => .inl h⟩) rfl s1
      · rw [if_neg he] at q; exact q.elim
    | ok r env2 =>
      rw [y] at q
      intro v F' G R' hd' sF
      have x := R'.ext0
      cases r with
      | frz d => exact q v F' G (R2.ext x) hd' (s1.trans sF)
      | tmp d =>
        obtain ⟨b, rfl, m⟩ := hd'
        obtain ⟨o, nf, n0⟩ := R'.tmp _ m
        exact q (.ref b) F' G (R2.push x n0 nf o) ⟨b, rfl, List.mem_cons_self⟩ (s1.trans sF)
      | loc i =>
        have hd' : σ[i]? = some (some v) := hd'
        unfold toldR at q
        dsimp only at q
        split at q
        · rename_i d e
          obtain ⟨v', e1, dv⟩ := R'.cells i _ e
          rw [hd'] at e1
          cases e1
          exact q v F' G (R2.ext x) dv (s1.trans sF)
        · exact q.elim
end
end DL

namespace DL
open PySem PySem.Spec PyProof.Rows L2 HotX L2H LamX
variable [TabCtx]
/-! ### defs that make lambdas -/
theorem pass_lamX {ca : Str → Addr} {X : Cx} {A : Around} {outer : List Env} {s : Shared} {H : Hp} {E : XK} {scope : Scope} {f c' : Addr} : Passes (L2N.CX X.prog X.w) (lamN X A outer s H E scope f c') (EW ca (DL.WE ca E)) :=
  L2N.passes_call (X := lamN X A outer s H E scope f c') (E := EW ca (DL.WE ca E)) (W := fun cls d _ H => E cls d H) (L2N.takes_of rfl rfl rfl rfl) fun cls d σ H ⟨c, e1, e2, h⟩ => by subst e1 e2; exact h
theorem pass_lam {P : Program} {w : World} {K : PySem.W.Frag} {mg : Str → Option Value} {base : Heap} {N : List Str} {qual : Str} {sc : Scope} {f0 : Addr} {cdv : Value} {A0 : Around} {outer0 : List Env} {s0 : Shared} {H0 : Hp} {E0 : XK} {ca : Str → Addr} {A : Around} {outer : List Env} {s : Shared} {H : Hp} {E : XK} {scope : Scope} {f c' : Addr} :
    Passes (L2N.CX P w) (lamN (cxOf (L2N.CX P w) P w K mg base N qual sc f0 cdv A0 outer0 s0 H0 E0) A outer s H E scope f c') (EW ca (DL.WE ca E)) :=
  pass_lamX (X := cxOf (L2N.CX P w) P w K mg base N qual sc f0 cdv A0 outer0 s0 H0 E0)
/-- the code object of a global def -/
abbrev cdF (K : PySem.W.Frag) (x : Str) : Addr := (He.cT K (x, none)).1
abbrev tbF (K : PySem.W.Frag) (x : Str) : Addr := (He.cT K (x, none)).2
abbrev fnF (K : PySem.W.Frag) (x : Str) : Addr := He.fAd K (x, none)
theorem fn_atL {P : Program} {w : World} {K : PySem.W.Frag} {mg : Str → Option Value} {base : Heap} {ca : Str → Addr} {x : Str} {params : Arguments} {body : List Stmt} {scope : Scope} {fd : FuncData} {N ps : List Str} {k : Nat} (Fd : FunD K x x params body scope [] [] (fnF K x) fd) (S : FnScope N ps scope) (g : Cs → OS)
    (h : ∀ (f c : Addr), c = cdF K x → ∀ (A : Around) (outer : List Env) (s : Shared) (H : Hp) (E : XK), Room k (A.deeper (envOfC x scope s.heap.objs.size f (.ref c))) → DB (cxOf (L2N.CX P w) P w K mg base N x scope f (.ref c) A outer s H E) (DL.WE ca E) body g) :
    FnOk P w K mg base (L2N.CX P w) (k + 1) (fnF K x) fd ps (spD K ca ps.length (runF N.length g)) := by
  obtain ⟨oc, od, dV, kV, doc, pm, an, cdv, ct, osl, rfl, lk, hcd, _, _⟩ := Fd.ex
  obtain ⟨c, rfl⟩ := He.codeIn_ref hcd
  have ec : cdF K x = c := He.codeOf_eq lk rfl
  refine fn_of lk hcd S (fun vs H Q E h => ?_) (fun A outer s H vs Q E hr hsp => ?_)
  · obtain ⟨F, ds, _, t, hn, _⟩ := h
    rw [t.length, hn]
  · obtain ⟨F, ds, sF, t, hn, hq⟩ := hsp
    refine ⟨_, pss_sem, h _ c ec.symm A outer s H E hr H F _ F _ H _ (start_rs sF t rfl) ?_⟩
    unfold runF at hq
    cases q : g (ds.map Cell.frz ++ List.replicate (N.length - ds.length) .un) with
    | stuck => rw [q] at hq; exact hq.elim
    | exc c => rw [q] at hq; exact hq
    | nx env => rw [q] at hq; exact fun F' σ' H' R' => hq .non F' H' R'.ext0 rfl
    | rt r => rw [q] at hq; exact hq
    | bk env => rw [q] at hq; exact hq.elim
    | ct env => rw [q] at hq; exact hq.elim
theorem fn_okL {P : Program} {w : World} {K : PySem.W.Frag} {mg : Str → Option Value} {base : Heap} {ca : Str → Addr} {x : Str} {params : Arguments} {body : List Stmt} {scope : Scope} {fd : FuncData} {N ps : List Str} {k : Nat} (Fd : FunD K x x params body scope [] [] (fnF K x) fd) (S : FnScope N ps scope) (hm : mg x = some (.ref (fnF K x))) (hb : Binds K fd ps []) (g : Cs → OS)
    (h : ∀ (f c : Addr), c = cdF K x → ∀ (A : Around) (outer : List Env) (s : Shared) (H : Hp) (E : XK), Room k (A.deeper (envOfC x scope s.heap.objs.size f (.ref c))) → DB (cxOf (L2N.CX P w) P w K mg base N x scope f (.ref c) A outer s H E) (DL.WE ca E) body g) :
    FnN P w K mg base ca x (k + 1) ps.length (runF N.length g) := ⟨fnF K x, fd, ps, fn_atL Fd S g h, hm, Fd.kp, hb⟩
omit [TabCtx] in
theorem tb_at {base : Heap} {mg : Str → Option Value} {c c0 P : Addr} (hc : c = c0) (h : TabB base mg c0 P) : TabB base mg c P := hc ▸ h
/-- a def with its place known -/
abbrev DefM (K : PySem.W.Frag) (mg : Str → Option Value) (x : Str) (st : Stmt) (ps : List Str) : Prop := ∃ fd, FunD K x x (defArgs st) (defBody st) (defScope st) [] [] (fnF K x) fd ∧ mg x = some (.ref (fnF K x)) ∧ Binds K fd ps []
/-- the name of a def's lambdas -/
def lamQ (x : Str) : Str := (x ++ ".<locals>.") ++ "<lambda>"
/-- the tables of the defs xs -/
def tabT (K : PySem.W.Frag) (xs : List Str) : List (Addr × Str) := xs.map fun x => (tbF K x, lamQ x)
def tabD (K : PySem.W.Frag) (xs : List Str) : Bool := xs.all fun x => xs.all fun y => decide (x = y) || !decide (tbF K x = tbF K y)
theorem tab_mem {K : PySem.W.Frag} {xs : List Str} {x : Str} (h : x ∈ xs) : (tbF K x, lamQ x) ∈ tabT K xs := List.mem_map.mpr ⟨x, h, rfl⟩
theorem tab_one {K : PySem.W.Frag} {xs : List Str} {x : Str} (d : tabD K xs = true) (h : x ∈ xs) : ∀ p ∈ tabT K xs, p.1 = tbF K x → p.2 = lamQ x := fun p hp e => by
  obtain ⟨y, hy, rfl⟩ := List.mem_map.mp hp
  have q := List.all_eq_true.mp (List.all_eq_true.mp d y hy) x h
  rw [Bool.or_eq_true, decide_eq_true_eq, Bool.not_eq_true', decide_eq_false_iff_not] at q
  rcases q with q | q
  · show lamQ y = lamQ x
    rw [q]
  · exact absurd e q
end DL

namespace DL
open PySem PySem.Spec PyProof.Rows L2
variable [TabCtx] {K : PySem.W.Frag} {X : Cx} {W : WN}
/-! ### zip of two lists, two tuples -/
def zipD (xs ys : List D) : List D := (xs.zip ys).map fun p => .tup [p.1, p.2]
theorem itz_ok {a b : Addr} {F : Hp} {xs ys : List D} {vs us : List V} (h : F a = some (.lst vs)) (t : DvL K F xs vs) (h2 : F b = some (.lst us)) (t2 : DvL K F ys us) : ItOk K (Itz K a b) F (zipD xs ys) := by
  intro F' H' s1 s2
  have qa : SqL K H' a vs := SqL.of (s2 _ _ (s1 _ _ h))
  have qb : SqL K H' b us := SqL.of (s2 _ _ (s1 _ _ h2))
  have la := t.length
  have lb := t2.length
  refine ⟨fun i d e => ?_, vs, us, qa, qb, by unfold zipD; rw [List.length_map, List.length_zip]; omega⟩
  unfold zipD at e
  rw [List.getElem?_map] at e
  cases q : (xs.zip ys)[i]? with
  | none => rw [q] at e; cases e
  | some z =>
    rw [q] at e
    cases e
    rw [List.getElem?_zip_eq_some] at q
    obtain ⟨v, ev, dv⟩ := t.at_ q.1
    obtain ⟨u, eu, du⟩ := t2.at_ q.2
    refine ⟨⟨vs, us, v, u, qa, qb, ev, eu⟩, fun x H'' hy => ?_⟩
    obtain ⟨T, x1, y1, rfl, hT, rfl, hx, hy⟩ := hy
    have e1 := hx vs qa
    rw [ev] at e1
    cases e1
    have e2 := hy us qb
    rw [eu] at e2
    cases e2
    have x := Ext.new (o := .tup [v, u]) s2 hT
    exact ⟨_, x, T, _, rfl, upd_same, _, _, rfl, (dv.mono s1).mono x.ff, u, [], rfl, (du.mono s1).mono x.ff, rfl⟩
theorem itzT_ok {a b : Addr} {F : Hp} {xs ys : List D} {vs us : List V} (h : F a = some (.tup vs)) (t : DvL K F xs vs) (h2 : F b = some (.tup us)) (t2 : DvL K F ys us) : ItOk K (RZ.ItzT K a b) F (zipD xs ys) := by
  intro F' H' s1 s2
  have qa : SqT K H' a vs := SqT.of (s2 _ _ (s1 _ _ h))
  have qb : SqT K H' b us := SqT.of (s2 _ _ (s1 _ _ h2))
  have la := t.length
  have lb := t2.length
  refine ⟨fun i d e => ?_, vs, us, qa, qb, by unfold zipD; rw [List.length_map, List.length_zip]; omega⟩
  unfold zipD at e
  rw [List.getElem?_map] at e
  cases q : (xs.zip ys)[i]? with
  | none => rw [q] at e; cases e
  | some z =>
    rw [q] at e
    cases e
    rw [List.getElem?_zip_eq_some] at q
    obtain ⟨v, ev, dv⟩ := t.at_ q.1
    obtain ⟨u, eu, du⟩ := t2.at_ q.2
    refine ⟨⟨vs, us, v, u, qa, qb, ev, eu⟩, fun x H'' hy => ?_⟩
    obtain ⟨T, x1, y1, rfl, hT, rfl, hx, hy⟩ := hy
    have e1 := hx vs qa
    rw [ev] at e1
    cases e1
    have e2 := hy us qb
    rw [eu] at e2
    cases e2
    have x := Ext.new (o := .tup [v, u]) s2 hT
    exact ⟨_, x, T, _, rfl, upd_same, _, _, rfl, (dv.mono s1).mono x.ff, u, [], rfl, (du.mono s1).mono x.ff, rfl⟩
def zipK (a b : D) (env : Cs) : Out (List D) := match a, b with
  | .lst xs, .lst ys => .ok (zipD xs ys) env
  | .tup xs, .tup ys => .ok (zipD xs ys) env
  | _, _ => .stuck
def giZ (ga gb : Cs → Out RV) : Cs → Out (List D) := fun env => (gSet ga env).bind fun a env1 => (gSet gb env1).bind fun b env2 => zipK a b env2
theorem di_zip {e e2 : Expr} {elts : List Expr} {kk : Nat} {ga gb : Cs → Out RV} {p0 pos tpos : Pos} (hg : Gl X "zip") (hm : X.mg "zip" = none) (ha : DE X W e ga) (hb : DE X W e2 gb) (hs : starEach [e, e2] X.env = (false, eval e X.env) :: starEach [e2] X.env := by rfl)
    (hs2 : starEach [e2] X.env = (false, eval e2 X.env) :: starEach [] X.env := by rfl) (hpl : (backTo pos (starEach [e2] X.env)).any (·.1) = false := by rfl) : DI X W (.Tuple elts kk tpos) (.Call (.Name "zip" p0) [e, e2] [] pos) (giZ ga gb) := by
  intro H0 F0 ts env F σ H Q R p
  refine PI.sem (RZ.pi_zipA (ta := tCons (eS X e) (tCons (eS X e2) tNil)) hg hm (pa_cons pe_sem (pa_cons pe_sem pa_nil hs2) hs) hs hpl) (ha.df H0 F0 ts env F σ H _ R ?_)
  unfold giZ at p
  cases q : gSet ga env with
  | stuck => rw [q] at p; exact p.elim
  | exc c => rw [q] at p; exact p
  | ok d env1 =>
    rw [q] at p
    dsimp only [Out.bind] at p
    intro v F1 H1 R1 h1 s1
    refine hb.df H0 F0 ts env1 F1 σ H1 _ R1 ?_
    cases q2 : gSet gb env1 with
    | stuck => rw [q2] at p; exact p.elim
    | exc c => rw [q2] at p; exact p
    | ok d2 env2 =>
      rw [q2] at p
      dsimp only at p
      intro u F2 H2 R2 h2 s2
      unfold zipK at p
      split at p
      · rename_i xs ys
        obtain ⟨a, vs, rfl, g1, t1⟩ := h1.mono s2
        obtain ⟨b, us, rfl, g2, t2⟩ := h2
        exact ⟨a, b, vs, us, rfl, .inl ⟨SqL.of (R2.fh _ _ g1), SqL.of (R2.fh _ _ g2), p _ F2 H2 R2 (s1.trans s2) (itz_ok g1 t1 g2 t2)⟩⟩
      · rename_i xs ys
        obtain ⟨a, vs, rfl, g1, t1⟩ := h1.mono s2
        obtain ⟨b, us, rfl, g2, t2⟩ := h2
        exact ⟨a, b, vs, us, rfl, .inr ⟨SqT.of (R2.fh _ _ g1), SqT.of (R2.fh _ _ g2), p _ F2 H2 R2 (s1.trans s2) (itzT_ok g1 t1 g2 t2)⟩⟩
      · exact p.elim
/-! ### dict displays -/
def PoPs (K : PySem.W.Frag) (W : WN) (H0 F0 : Hp) (ts : List (Addr × D)) (F : Hp) (σ : L2.St) (Q : List (V × V) → Hp → Prop) : Out (List (Key × D)) → Prop
  | .stuck => False
  | .exc c => ∀ H', Kp H0 H' → W c H'
  | .ok es env => ∀ kvs F' H', Rs K H0 F0 ts env F' σ H' → DvK K F' es kvs → Same F F' → Q (kvs.map fun kv => (kV kv.1, kv.2)) H'
def DPs (X : Cx) (W : WN) (pos : Pos) (keys : List (Option Expr)) (vals : List Expr) (g : Cs → Out (List (Key × D))) : Prop := ∃ trs, PPs X pos keys vals trs ∧ ∀ (H0 F0 : Hp) (ts : List (Addr × D)) (env : Cs) (F : Hp) (σ : L2.St) (H : Hp) (Q : List (V × V) → Hp → Prop),
  Rs X.K H0 F0 ts env F σ H → PoPs X.K W H0 F0 ts F σ Q (g env) → tPairs trs σ H Q
def gpN : Cs → Out (List (Key × D)) := fun env => .ok [] env
def gpC (gk gv : Cs → Out D) (gs : Cs → Out (List (Key × D))) : Cs → Out (List (Key × D)) := fun env => (gk env).bind fun k env1 => (gv env1).bind fun v env2 => (gs env2).bind fun es env3 => match asKey k with
  | some kk => .ok ((kk, v) :: es) env3
  | none => .stuck
theorem dps_nil {pos : Pos} : DPs X W pos [] [] gpN := ⟨[], pps_nil, fun H0 F0 ts env F σ H Q R p => p [] F H R rfl (.refl _)⟩
theorem dps_cons {pos : Pos} {k v : Expr} {ks : List (Option Expr)} {vs : List Expr} {gk gv : Cs → Out D} {gs : Cs → Out (List (Key × D))} (hk : DF X W k gk) (hv : DF X W v gv) (hs : DPs X W pos ks vs gs) : DPs X W pos (some k :: ks) (v :: vs) (gpC gk gv gs) := by
  obtain ⟨trs, hp, hs⟩ := hs
  refine ⟨_, pps_cons pe_sem pe_sem hp, fun H0 F0 ts env F σ H Q R p => hk H0 F0 ts env F σ H _ R ?_⟩
  unfold gpC at p
  cases q : gk env with
  | stuck => rw [q] at p; exact p.elim
  | exc c => rw [q] at p; exact p
  | ok d env1 =>
    rw [q] at p
    dsimp only [Out.bind] at p
    intro x F1 H1 R1 h1 s1
    refine hv H0 F0 ts env1 F1 σ H1 _ R1 ?_
    cases q2 : gv env1 with
    | stuck => rw [q2] at p; exact p.elim
    | exc c => rw [q2] at p; exact p
    | ok e env2 =>
      rw [q2] at p
      dsimp only at p
      intro y F2 H2 R2 h2 s2
      refine hs H0 F0 ts env2 F2 σ H2 _ R2 ?_
      cases q3 : gs env2 with
      | stuck => rw [q3] at p; exact p.elim
      | exc c => rw [q3] at p; exact p
      | ok es env3 =>
        rw [q3] at p
        dsimp only at p
        intro kvs F3 H3 R3 h3 s3
        cases q4 : asKey d with
        | none => rw [q4] at p; exact p.elim
        | some kk =>
          rw [q4] at p
          have e5 := h1.key q4
          subst e5
          exact p ((kk, y) :: kvs) F3 H3 R3 ⟨y, kvs, rfl, h2.mono s3, h3⟩ (s1.trans (s2.trans s3))
def gDisp (g : Cs → Out (List (Key × D))) : Cs → Out RV := fun env => (g env).bind fun es env1 => if es.length ≤ 15 then .ok (.tmp (.dK (mergeD [] es))) env1 else .stuck
theorem DvK.len {F : Hp} : ∀ {es : List (Key × D)} {kvs : List (Key × V)}, DvK K F es kvs → kvs.length = es.length
  | [], _, h => by cases h; rfl
  | (_, _) :: _, _, ⟨_, _, e, _, t⟩ => by subst e; simp [DvK.len t]
theorem de_disp {pos : Pos} {keys : List (Option Expr)} {vals : List Expr} {g : Cs → Out (List (Key × D))} (h : DPs X W pos keys vals g) (hall : keys.all (·.isSome) = true) (hl : keys.length = vals.length) (h0 : keys ≠ []) (h15 : keys.length ≤ 15) : DE X W (.Dict keys vals pos) (gDisp g) := by
  obtain ⟨trs, hp, hs⟩ := h
  intro H0 F0 ts env F σ H Q R p
  refine PE.sem (pe_disp hp hall hl h0 h15) fun a ha => ?_
  have R1 := R.push (a := a) (d := .dK []) (Ext.tmp (o := .dK []) R.fh ha) (.of ha) (R.fh.free ha) ⟨[], upd_same, rfl⟩
  refine hs H0 F0 _ env F σ _ _ R1 ?_
  unfold gDisp at p
  cases q : g env with
  | stuck => rw [q] at p; exact p.elim
  | exc c => rw [q] at p; exact p
  | ok es env1 =>
    rw [q] at p
    dsimp only [Out.bind] at p
    intro kvs F2 H2 R2 h2 s2
    split at p
    · rename_i hz
      obtain ⟨o, nf, n0⟩ := R2.tmp (a, .dK []) List.mem_cons_self
      obtain ⟨kv0, e0, t0⟩ := o
      cases t0
      refine ⟨e0, kvs, rfl, by rw [h2.len]; exact hz, ?_⟩
      exact p (.ref a) F2 _ (R2.writeT (o := .dK (mergeK [] kvs)) (d' := .dK (mergeD [] es)) ⟨_, upd_same, DvK.merge h2 rfl⟩) ⟨a, rfl, List.mem_cons_self⟩ s2
    · exact p.elim
/-! ### list(range(a, b)) -/
def lrK (a b : D) (env : Cs) : Out RV := match a, b with
  | .int i, .int j => if rgB i = true ∧ rgB j = true ∧ sz (j - i).toNat = true then .ok (.tmp (.lst (rngL i j))) env else .stuck
  | _, _ => .stuck
def gLR (ga gb : Cs → Out RV) : Cs → Out RV := fun env => (gSet ga env).bind fun a env1 => (gSet gb env1).bind fun b env2 => lrK a b env2
theorem dvL_rng {F : Hp} (i j : Int) : DvL K F (rngL i j) (rgV i j) := by
  unfold rngL rgV
  induction List.range (j - i).toNat with
  | nil => rfl
  | cons x l ih => exact ⟨_, _, rfl, rfl, ih⟩
theorem de_listRg {a b : Expr} {ga gb : Cs → Out RV} {p0 p1 p2 pos : Pos} (hc : X.calm = true) (hg : Gl X "list") (hm : X.mg "list" = none) (hg2 : Gl X "range") (hm2 : X.mg "range" = none) (ha : DE X W a ga) (hb : DE X W b gb)
    (na : starEach [.Call (.Name "range" p1) [a, b] [] p2] X.env = (false, eval (.Call (.Name "range" p1) [a, b] [] p2) X.env) :: starEach [] X.env := by rfl) (nb : starEach [a, b] X.env = (false, eval a X.env) :: starEach [b] X.env := by rfl)
    (nc : starEach [b] X.env = (false, eval b X.env) :: starEach [] X.env := by rfl) (hp : (backTo p2 (starEach [b] X.env)).any (·.1) = false := by rfl) : DE X W (.Call (.Name "list" p0) [.Call (.Name "range" p1) [a, b] [] p2] [] pos) (gLR ga gb) := by
  intro H0 F0 ts env F σ H Q R p
  refine PE.sem (pe_listRg hc hg hm (prg_2 hg2 hm2 pe_sem pe_sem nb nc hp) na) (ha.df H0 F0 ts env F σ H _ R ?_)
  unfold gLR at p
  cases q : gSet ga env with
  | stuck => rw [q] at p; exact p.elim
  | exc c => rw [q] at p; exact p
  | ok d env1 =>
    rw [q] at p
    dsimp only [Out.bind] at p
    intro v F1 H1 R1 h1 s1
    refine hb.df H0 F0 ts env1 F1 σ H1 _ R1 ?_
    cases q2 : gSet gb env1 with
    | stuck => rw [q2] at p; exact p.elim
    | exc c => rw [q2] at p; exact p
    | ok d2 env2 =>
      rw [q2] at p
      dsimp only at p
      intro u F2 H2 R2 h2 s2
      unfold lrK at p
      split at p
      · rename_i i j
        cases h1; cases h2
        split at p
        · rename_i hz
          obtain ⟨z1, z2⟩ := rgB_ok hz.1
          obtain ⟨z3, z4⟩ := rgB_ok hz.2.1
          have z5 := of_decide_eq_true hz.2.2
          refine ⟨i, j, rfl, rfl, ⟨z1, z2, z3, z4, by omega⟩, fun l hl => ?_⟩
          have x := Ext.tmp (o := .lst (rgV i j)) R2.fh hl
          exact p (.ref l) F2 _ (R2.push x (.of hl) (R2.fh.free hl) ⟨_, upd_same, dvL_rng i j⟩) ⟨l, rfl, List.mem_cons_self⟩ (s1.trans s2)
        · exact p.elim
      · exact p.elim
/-! equations for the reckoning -/
theorem e_giZ (ga gb : Cs → Out RV) (env : Cs) : giZ ga gb env = (gSet ga env).bind fun a env1 => (gSet gb env1).bind (zipK a) := rfl
theorem zipK_l (xs ys : List D) (env : Cs) : zipK (.lst xs) (.lst ys) env = .ok (zipD xs ys) env := rfl
theorem zipK_t (xs ys : List D) (env : Cs) : zipK (.tup xs) (.tup ys) env = .ok (zipD xs ys) env := rfl
theorem e_gLR (ga gb : Cs → Out RV) (env : Cs) : gLR ga gb env = (gSet ga env).bind fun a env1 => (gSet gb env1).bind (lrK a) := rfl
theorem lrK_i (i j : Int) (env : Cs) : lrK (.int i) (.int j) env = if rgB i = true ∧ rgB j = true ∧ sz (j - i).toNat = true then .ok (.tmp (.lst (rngL i j))) env else .stuck := rfl
theorem e_sRs (c : Str) (env : Cs) : sRs c env = .exc c := rfl
theorem e_gDisp (g : Cs → Out (List (Key × D))) (env : Cs) : gDisp g env = (g env).bind fun es env1 => if es.length ≤ 15 then .ok (.tmp (.dK (mergeD [] es))) env1 else .stuck := rfl
theorem e_gpN (env : Cs) : gpN env = .ok [] env := rfl
def gpK (k v : D) (es : List (Key × D)) (env : Cs) : Out (List (Key × D)) := match asKey k with
  | some kk => .ok ((kk, v) :: es) env
  | none => .stuck
theorem e_gpC (gk gv : Cs → Out D) (gs : Cs → Out (List (Key × D))) (env : Cs) : gpC gk gv gs env = (gk env).bind fun k env1 => (gv env1).bind fun v env2 => (gs env2).bind (gpK k v) := rfl
theorem gpK_i (i : Int) (v : D) (es : List (Key × D)) (env : Cs) : gpK (.int i) v es env = .ok ((.inl i, v) :: es) env := rfl
theorem gpK_s (i : Str) (v : D) (es : List (Key × D)) (env : Cs) : gpK (.str i) v es env = .ok ((.inr i, v) :: es) env := rfl
def cls8 : List Str := ["BadFold", "BadName", "BadRows", "BadText", "BadTick", "BadTrees", "NoHand", "Nothing"]
def cls9 : List Str := ["BadFold", "BadName", "BadRows", "BadText", "BadTick", "BadTrees", "NoHand", "Nothing", "BadBounds"]
/-! ### int(..) -/
def sInt : D → Option Rn
  | .int i => some (.f (.int i))
  | .bl b => some (.f (.int (b2 b)))
  | _ => none
theorem v_int : V1 K (fun v H Q => (∃ i, [v] = [V.int i] ∧ Q (.int i) H) ∨ ∃ k, [v] = [V.bl k] ∧ Q (.int (if k then 1 else 0)) H) sInt := by
  intro F H d v Q s hd p
  cases d with
  | int i => cases hd.int; exact .inl ⟨i, rfl, PV.f s p rfl⟩
  | bl b => cases hd.bl; exact .inr ⟨b, rfl, PV.f s p rfl⟩
  | _ => exact p.elim
theorem e_int (i : Int) : sInt (.int i) = some (.f (.int i)) := rfl
theorem e_intB (b : Bool) : sInt (.bl b) = some (.f (.int (b2 b))) := rfl
theorem ln_0 : (0 : Nat) ≤ lineN := by decide
theorem ln_1 : (1 : Nat) ≤ lineN := by decide
theorem ln_2 : (2 : Nat) ≤ lineN := by decide
theorem ln_3 : (3 : Nat) ≤ lineN := by decide
theorem ln_4 : (4 : Nat) ≤ lineN := by decide
theorem ln_5 : (5 : Nat) ≤ lineN := by decide
theorem ln_6 : (6 : Nat) ≤ lineN := by decide
theorem ln_7 : (7 : Nat) ≤ lineN := by decide
theorem ln_8 : (8 : Nat) ≤ lineN := by decide
end DL

namespace DL
open PySem PySem.Spec PyProof.Rows L2
variable [TabCtx]
/-! ### dict(..) of pairs whose keys are tuples -/
def mergeKT (kvs more : List (List Key × V)) : List (List Key × V) := more.foldl (fun acc kv => putK acc kv.1 kv.2) kvs
omit [TabCtx] in
theorem kt_merge {H : Hp} : ∀ {more : List (List Key × V)} {ms : List (List Key × Addr × Value)} {kvs : List (List Key × V)} {xs : List (List Key × Addr × Value)}, KT H more ms → KT H kvs xs → KT H (mergeKT kvs more) (storedAllH xs ms)
  | _, _, _, _, .nil, h => h
  | _, _, kvs, xs, .cons (a := p) (b := q) h t, g => by
    obtain ⟨e1, e2, e3⟩ := h
    have := kt_merge t (g.put p.1 (b := q.2.1) (y := p.2) (u := q.2.2) e2 e3)
    show KT H (mergeKT (putK kvs p.1 p.2) _) (storedAllH (storedH xs q.1 q.2.1 q.2.2) _)
    rw [← e1]
    exact this
omit [TabCtx] in
theorem mergeKT_len : ∀ (more kvs : List (List Key × V)), (mergeKT kvs more).length ≤ kvs.length + more.length
  | [], kvs => Nat.le_refl _
  | p :: more, kvs => by
    have h1 := mergeKT_len more (putK kvs p.1 p.2)
    have h2 := length_putK kvs p.1 p.2
    show (mergeKT (putK kvs p.1 p.2) more).length ≤ _
    rw [List.length_cons]
    omega
section
variable {X : Cx}
omit [TabCtx] in
theorem pairs_ofT {pins : List (Addr × Obj)} {σ : L2.St} {H : Hp} {s : Shared} (I : Inv X pins σ H s) : ∀ {ps : List Addr} {kvs : List (List Key × V)}, Paired (fun p kv => ∃ b, SqT X.K H p [.ref b, kv.2] ∧ H b = some (.tup (kv.1.map kV))) ps kvs →
    ∃ prs : List (List Key × Addr × Value), KT H kvs prs ∧ prs.length = ps.length ∧ ∀ (j : Nat) (q : List Key × Addr × Value), prs[j]? = some q → ∃ b : Addr, ps[j]? = some b ∧ IsTup s.heap b #[.ref q.2.1, q.2.2] ∧ H q.2.1 = some (.tup (q.1.map kV))
  | _, _, .nil => ⟨[], .nil, rfl, fun j q e => by simp at e⟩
  | _, _, .cons (a := p) (b := kv) h t => by
    obtain ⟨prs, r, hl, hp⟩ := pairs_ofT I t
    obtain ⟨b, h, hb⟩ := h
    obtain ⟨its, rv, ht, _⟩ := I.tuple h
    obtain ⟨u, y, ei, ru, ry⟩ := vals2 rv
    subst ei
    cases ru
    refine ⟨(kv.1, b, y) :: prs, .cons ⟨rfl, hb, ry⟩ r, by rw [List.length_cons, List.length_cons, hl], fun j q e => ?_⟩
    cases j with
    | zero =>
      have e' : (kv.1, b, y) = q := Option.some.inj e
      subst e'
      exact ⟨p, rfl, ht, hb⟩
    | succ j =>
      obtain ⟨b', e1, e2, e3⟩ := hp j q (by simpa using e)
      exact ⟨b', by simpa using e1, e2, e3⟩
def rDictT (K : PySem.W.Frag) : List V → Hp → VK → Prop := fun xs H Q => ∃ (a : Addr) (ps : List Addr) (kvs : List (List Key × V)), xs = [.ref a] ∧ SqL K H a (ps.map V.ref) ∧ Paired (fun p kv => ∃ b, SqT K H p [.ref b, kv.2] ∧ H b = some (.tup (kv.1.map kV))) ps kvs ∧ ∀ p, H p = none → Q (.ref p) (upd H p (.dT (mergeKT [] kvs)))
omit [TabCtx] in
theorem cr_dictT (hu : X.A.units + 64 < cLine) (hc : X.calm = true) : CallR X (.type "dict") (rDictT X.K) := by
  intro pins s σ H xs us Q I r q
  obtain ⟨a, ps, kvs, ex, hq, hp, q⟩ := q
  subst ex
  rw [Vals.ref1 r]
  obtain ⟨its, rv, pl, hz⟩ := I.list hq
  have ei := refs_at rv
  subst ei
  rw [List.length_map] at hz
  obtain ⟨prs, rel, hl, hpr⟩ := pairs_ofT I hp
  obtain ⟨o, n, ho, hcl, hd, hdat⟩ := pl
  have hpl : prs.length = ps.length := hl
  have hlv : (prs.map fun q => (Value.ref q.2.1, q.2.2)).length = ps.length := by rw [List.length_map]; exact hl
  refine PySem.call_dict_pairsH (knd := tupleKind (mixKind X.prog X.w)) (ps := prs) (PairArg.list a (ps.map Value.ref).toArray (fun j => ps.getD j 0) (prs.map fun q => (Value.ref q.2.1, q.2.2))) (I.ok.hd hc) (show (tupleKind (mixKind X.prog X.w)).room X.A.in1.in1 from tupleKind_room_in1 (A := X.A.in1) (show X.A.in1.units + 1 < cLine by show X.A.units + 1 + 1 < cLine; omega)) ⟨⟨o, n, ho, hcl, hd, hdat⟩, ?_, ?_⟩ ?_ ?_ (by rw [hlv]; exact hz) fun h' tk hd' k => ?_
  · rw [List.size_toArray, List.length_map, hlv]
  · intro j kk v e
    rw [List.getElem?_map] at e
    cases e2 : prs[j]? with
    | none => rw [e2] at e; cases e
    | some q' =>
      rw [e2] at e
      cases e
      obtain ⟨b, e3, e4, _⟩ := hpr j q' e2
      have e5 : ps.getD j 0 = b := by rw [List.getD_eq_getElem?_getD, e3]; rfl
      refine ⟨by rw [List.getElem?_toArray, List.getElem?_map, e3]; show _ = some (Value.ref (ps.getD j 0)); rw [e5]; rfl, .inl ?_⟩
      show s.heap.IsTuple (ps.getD j 0) _
      rw [e5]
      exact e4
  · refine ⟨by rw [hlv, hl], fun i key v e => ?_⟩
    have e : (prs.map fun q => (Value.ref q.2.1, q.2.2))[i]? = some (key, v) := e
    rw [List.getElem?_map] at e
    cases e2 : prs[i]? with
    | none => rw [e2] at e; cases e
    | some q' =>
      rw [e2] at e
      cases e
      exact ⟨q'.1, q'.2.1, rfl, rfl⟩
  · intro h' hk x hx
    obtain ⟨j, hj⟩ := List.getElem?_of_mem hx
    obtain ⟨b, e3, e4, e5⟩ := hpr j x hj
    obtain ⟨o', its', n', h1, h2, h3, h4⟩ := key_of I.hok e5
    exact ⟨o', its', n', hk _ _ (Nat.ne_of_lt (Heap.lt_size h1)) (by simp) h1, h2, h3, h4⟩
  · have hm : (s.heap.objs.size == sysModules) = false := beq_eq_false_iff_ne.mpr (Nat.ne_of_gt I.big)
    have hlen : (mergeKT [] kvs).length ≤ sizeLine := by
      refine Nat.le_trans (mergeKT_len kvs []) ?_
      rw [List.length_nil, Nat.zero_add, Paired.length rel, hl]
      exact hz
    obtain ⟨q', es, ep, g1, g2, g3, g4, _, g5⟩ := hd'
    have hf := I.hok.fresh (Nat.le_refl s.heap.objs.size)
    exact ⟨.ref s.heap.objs.size, upd H s.heap.objs.size (.dT (mergeKT [] kvs)), I.laid (t' := tk) (fun b o e => k b o (by simp) e) (Nat.le_refl _) (show ObjOk X.prog X.w _ _ _ (.dT (mergeKT [] kvs)) from ⟨hlen, hm, storedAllH [] prs, (kt_merge rel .nil).keeps fun b ys e => by rw [upd_ne (ne_of_none e hf)]; exact e, q', es, ep, g1, g2, g3, g4, g5⟩), rfl, q _ hf⟩
end
section
variable {K : PySem.W.Frag}
def asPairsT : List D → Option (List (List Key × D))
  | [] => some []
  | .tup [.tup ks, d] :: r => match asKeys ks, asPairsT r with
    | some kk, some es => some ((kk, d) :: es)
    | _, _ => none
  | _ => none
def mergeT (es more : List (List Key × D)) : List (List Key × D) := more.foldl (fun acc e => put acc e.1 e.2) es
/-- dict(..), its keys tuples -/
def sDictT : D → Option Rn
  | .lst xs => match asPairsT xs with
    | some es => if sz es.length = true then some (.t (.dT (mergeT [] es))) else none
    | none => none
  | _ => none
theorem asPairsT_cons {x : D} {r : List D} {es : List (List Key × D)} (h : asPairsT (x :: r) = some es) : ∃ ks d kk es', x = .tup [.tup ks, d] ∧ asKeys ks = some kk ∧ asPairsT r = some es' ∧ es = (kk, d) :: es' := by
  cases x with
  | tup ds =>
    match ds, h with
    | [], h => simp [asPairsT] at h
    | [_], h => simp [asPairsT] at h
    | _ :: _ :: _ :: _, h => simp [asPairsT] at h
    | [k, d], h =>
      cases k with
      | tup ks =>
        unfold asPairsT at h
        cases q1 : asKeys ks with
        | none => rw [q1] at h; cases h
        | some kk =>
          cases q2 : asPairsT r with
          | none => rw [q1, q2] at h; cases h
          | some es' =>
            rw [q1, q2] at h
            cases h
            exact ⟨ks, d, kk, es', rfl, q1, rfl, rfl⟩
      | _ => simp [asPairsT] at h
  | _ => simp [asPairsT] at h
theorem DvL.pairsT {F H : Hp} (s : Same F H) : ∀ {xs : List D} {vs : List V} {es : List (List Key × D)}, DvL K F xs vs → asPairsT xs = some es → ∃ (ps : List Addr) (kvs : List (List Key × V)), vs = ps.map V.ref ∧ Paired (fun p kv => ∃ b, SqT K H p [.ref b, kv.2] ∧ H b = some (.tup (kv.1.map kV))) ps kvs ∧ DvT K F es kvs
  | [], _, _, h, e => by cases h; cases e; exact ⟨[], [], rfl, .nil, rfl⟩
  | x :: xs, _, es, ⟨v, r, ev, hv, t⟩, e => by
    subst ev
    obtain ⟨ks, d, kk, es', rfl, q1, q2, rfl⟩ := asPairsT_cons e
    obtain ⟨ps, kvs, e1, e2, e3⟩ := DvL.pairsT s t q2
    obtain ⟨a, ws, ea, fa, ⟨v1, r1, w1, d1, v2, r2, w2, d2, w3⟩⟩ := hv
    subst ea e1 w1 w2 w3
    obtain ⟨b, us, eb, fb, t4⟩ := d1
    subst eb
    have e4 := t4.keys q1
    subst e4
    exact ⟨a :: ps, (kk, v2) :: kvs, rfl, .cons ⟨b, SqT.of (s _ _ fa), s _ _ fb⟩ e2, ⟨v2, kvs, rfl, d2, e3⟩⟩
theorem DvT.merge {F : Hp} : ∀ {more : List (List Key × D)} {mvs : List (List Key × V)} {es : List (List Key × D)} {kvs : List (List Key × V)}, DvT K F more mvs → DvT K F es kvs → DvT K F (mergeT es more) (mergeKT kvs mvs)
  | [], _, _, _, h, g => by cases h; exact g
  | (k, d) :: more, _, es, kvs, ⟨v, r, e, h, t⟩, g => by
    subst e
    exact DvT.merge (more := more) (mvs := r) (es := DL.put es k d) (kvs := putK kvs k v) t (g.put h)
theorem PV.newDT {F H : Hp} {es : List (List Key × D)} {kvs : List (List Key × V)} {Q : VK} (s : Same F H) (p : PV K F H Q (some (.t (.dT es)))) (h : DvT K F es kvs) (a : Addr) (n : H a = none) : Q (.ref a) (upd H a (.dT kvs)) :=
  p a F _ (.tmp s n) (.of n) (by cases q : F a with | none => rfl | some o => have := s _ _ q; rw [n] at this; cases this) ⟨kvs, upd_same, h⟩
theorem v_dictT : V1 K (fun v H Q => rDictT K [v] H Q) sDictT := by
  intro F H d v Q s hd p
  cases d with
  | lst xs =>
    obtain ⟨a, vs, e1, h1, t1⟩ := hd.lst s
    dsimp only [sDictT] at p
    split at p
    · rename_i es q
      split at p
      · obtain ⟨ps, kvs, e2, e3, e4⟩ := t1.pairsT s q
        subst e1 e2
        refine ⟨a, ps, kvs, rfl, SqL.of h1, e3, fun b hb => ?_⟩
        exact p.newDT s (e4.merge (es := []) (kvs := []) rfl) b hb
      · exact p.elim
    · exact p.elim
  | _ => exact p.elim
/-! ### list(..) of a dict -/
def sListOf2 : D → Option Rn
  | .dK es => some (.t (.lst (es.map fun e => kD e.1)))
  | .dT es => some (.t (.lst (es.map fun e => kT e.1)))
  | d => sListOf d
theorem keysF {F H : Hp} {kvs : List (List Key × V)} {bs : List Addr} (s : Same F H) (ik : IsKeys H kvs bs) : ∃ F' : Hp, Same F F' ∧ Same F' H ∧ (∀ c ∈ bs, F' c = H c) ∧ (∀ c, F' c ≠ none → F c ≠ none ∨ ∃ xs, F' c = some (.tup xs)) ∧ (NoTb F → NoTb F') := by
  refine ⟨fun c => if c ∈ bs then H c else F c, fun c o e => ?_, fun c o e => ?_, fun c m => if_pos m, fun c h => ?_, fun n c ps e => ?_⟩
  · show (if c ∈ bs then H c else F c) = _
    split
    · exact s _ _ e
    · exact e
  · have e : (if c ∈ bs then H c else F c) = some o := e
    split at e
    · exact e
    · exact s _ _ e
  · by_cases m : c ∈ bs
    · obtain ⟨xs, e⟩ := isKeys_mem ik c m
      exact .inr ⟨xs, by show (if c ∈ bs then H c else F c) = _; rw [if_pos m]; exact e⟩
    · have h : (if c ∈ bs then H c else F c) ≠ none := h
      rw [if_neg m] at h
      exact .inl h
  · have e : (if c ∈ bs then H c else F c) = some (.tbl ps) := e
    split at e
    · rename_i m
      obtain ⟨xs, e2⟩ := isKeys_mem ik c m
      rw [e2] at e
      cases e
    · exact n c ps e
def rList2 (K : PySem.W.Frag) : List V → Hp → VK → Prop := fun xs H Q => (∃ p ys, xs = [V.ref p] ∧ (SqL K H p ys ∨ SqT K H p ys) ∧ ∀ l, H l = none → Q (.ref l) (upd H l (.lst ys))) ∨
  (∃ (a : Addr) (kvs : List (Key × V)), xs = [.ref a] ∧ Rd H a (.dK kvs) ∧ ∀ p, H p = none → Q (.ref p) (upd H p (.lst (kvs.map fun kv => kV kv.1)))) ∨
  ∃ d kvs, xs = [V.ref d] ∧ Rd H d (.dT kvs) ∧ ∀ p bs, H p = none → IsKeys H kvs bs → Q (.ref p) (upd H p (.lst (bs.map V.ref)))
theorem DvK.keysL {F : Hp} : ∀ {es : List (Key × D)} {kvs : List (Key × V)}, DvK K F es kvs → DvL K F (es.map fun e => kD e.1) (kvs.map fun kv => kV kv.1)
  | [], _, h => by cases h; rfl
  | (k, d) :: es, _, ⟨v, r, e, h, t⟩ => by subst e; exact ⟨_, _, rfl, dv_kD k, DvK.keysL t⟩
theorem v_list2 : V1 K (fun v H Q => rList2 K [v] H Q) sListOf2 := by
  intro F H d v Q s hd p
  cases d with
  | dK es =>
    obtain ⟨a, kvs, e1, h1, t1⟩ := hd.dK s
    subst e1
    exact .inr (.inl ⟨a, kvs, rfl, h1, fun b hb => PV.newL s p t1.keysL b hb⟩)
  | dT es =>
    obtain ⟨a, kvs, e1, h1, t1⟩ := hd.dT s
    subst e1
    have ek : (es.map fun e => kT e.1) = kvs.map fun e => kT e.1 := by
      have := congrArg (List.map kT) t1.keys
      rwa [List.map_map, List.map_map] at this
    have p : PV K F H Q (some (.t (.lst (es.map fun e => kT e.1)))) := p
    rw [ek] at p
    refine .inr (.inr ⟨a, kvs, rfl, h1, fun b bs hb ik => ?_⟩)
    obtain ⟨F', s1, s2, s3, s4, s5⟩ := keysF s ik
    have t2 : DvL K F' (kvs.map fun e => kT e.1) (bs.map V.ref) := tups_at (isKeys_on ik s3)
    exact p b F' _ ⟨.of (Same.upd hb), s5, s1, s2.trans (Same.upd hb), fun c h => (s4 c h).elim .inl fun z => .inr (.inr z)⟩ (.of hb) (s2.free hb) ⟨_, upd_same, t2⟩
  | lst xs => exact .inl (v_listOf F H _ v Q s hd p)
  | tup xs => exact .inl (v_listOf F H _ v Q s hd p)
  | _ => exact p.elim
end
section
variable {X : Cx} {W : WN}
omit [TabCtx] in
theorem cr_list2 (hc : X.calm = true) : CallR X (.type "list") (rList2 X.K) := by
  intro pins s σ H xs us Q I r h
  rcases h with h | h | h
  · exact call_list_of pins s σ H xs us Q I r h
  · exact call_listD hc pins s σ H xs us Q I r h
  · exact call_list_dT hc pins s σ H xs us Q I r h
end
end DL

namespace DL
open PySem PySem.Spec PyProof.Rows L2
variable [TabCtx]
/-! ### t[::-1] of a tuple -/
section
variable {prog : Program} {w : World} {A : Around} {E : Value → Shared → Prop} {s : Shared}
omit [TabCtx] in
theorem places_rev (n : Nat) : Builtin.Slice.slicePlaces ((n : Int) - 1) (-1) (-1) = n := by
  unfold Builtin.Slice.slicePlaces
  rw [if_neg (by decide)]
  by_cases h : (n : Int) - 1 > -1
  · rw [if_pos h, show (- -1 : Int) = 1 by decide, Int.ediv_one]; omega
  · rw [if_neg h]; omega
omit [TabCtx] in
theorem sliceApplied_rev {sl : Addr} {vl vu vs : Value} {n : Nat} {Q : Int × Int × Nat → Shared → Prop} (hs : s.heap.IsSliceOf sl vl vu vs) (pl : IsPart vl none) (pu : IsPart vu none) (ps : IsPart vs (some (-1)))
    (h : Q ((n : Int) - 1, -1, n) s) : wpAny (model prog w) A (Builtin.Slice.sliceApplied (.ref sl) (pure (n : Int))) Q E s := by
  obtain ⟨os, hos, hcs, hds⟩ := id hs
  unfold Builtin.Slice.sliceApplied Builtin.Slice.sliceFields
  refine wpAny_bind (wpAny_bind (wpAny_field hos hds (x := vl) rfl (wpAny_bind (wpAny_field hos hds (x := vu) rfl (wpAny_bind (wpAny_field hos hds (x := vs) rfl (wpAny_pure ?_)))))))
  refine wpAny_bind (HT.slicePart_ ps ?_)
  show wpAny _ _ (if ((-1 : Int) == 0) = true then _ else _) _ _ s
  rw [if_neg (by decide)]
  refine wpAny_bind (HT.slicePart_ pl (wpAny_bind (HT.slicePart_ pu (wpAny_bind (wpAny_pure ?_)))))
  show wpAny _ _ (pure ((n : Int) - 1, (-1 : Int), Builtin.Slice.slicePlaces ((n : Int) - 1) (-1) (-1))) _ _ s
  rw [places_rev]
  exact wpAny_pure h
omit [TabCtx] in
theorem pick_rev (xs : Array Value) : ((List.range xs.size).filterMap fun (m : Nat) => xs[((xs.size : Int) - 1 + (m : Int) * -1).toNat]?).toArray = xs.toList.reverse.toArray := by
  have e : (List.range xs.size).filterMap (fun (m : Nat) => xs[((xs.size : Int) - 1 + (m : Int) * -1).toNat]?) = ((List.range xs.size).map fun k => xs.size - 1 - k).filterMap (xs[·]?) := by
    rw [List.filterMap_map]
    have fc : ∀ (l : List Nat) (f g : Nat → Option Value), (∀ m ∈ l, f m = g m) → l.filterMap f = l.filterMap g := by
      intro l f g h
      induction l with
      | nil => rfl
      | cons m l ih => rw [List.filterMap_cons, List.filterMap_cons, h m List.mem_cons_self, ih fun k hk => h k (List.mem_cons_of_mem _ hk)]
    refine fc _ _ _ fun m hm => ?_
    have := List.mem_range.mp hm
    show _ = xs[xs.size - 1 - m]?
    congr 1
    omega
  rw [e, PySem.W.krv_range, List.filterMap_reverse, PySem.W.krv_all]
omit [TabCtx] in
theorem getItem_tuple_rev {t sl : Addr} {items : Array Value} {vl vu vs : Value} {Q : Value → Shared → Prop} (ht : IsTup s.heap t items) (hs : s.heap.IsSliceOf sl vl vu vs) (pl : IsPart vl none) (pu : IsPart vu none) (ps : IsPart vs (some (-1)))
    (h : Q (.ref s.heap.objs.size) { s with heap := s.heap.push { cls := .type "tuple", data := .seq items.toList.reverse.toArray } })
    (hsz : items.size ≤ sizeLine) : wpAny (model prog w) A (getItem (.ref t) (.ref sl)) Q E s := by
  have htake : sizeOk (.seq items.toList.reverse.toArray) := by
    show items.toList.reverse.toArray.size ≤ sizeLine
    rw [List.size_toArray, List.length_reverse, Array.length_toList]
    exact hsz
  obtain ⟨os, hos, hcs, hds⟩ := id hs
  have hTs : s.TypeIs (.ref sl) "slice" := ⟨os, hos, hcs⟩
  unfold getItem
  try with_reducible refine wpAny_holding ?_
  first | refine wpAny_bind (wpAny_pure ?_) | skip
  refine wpAny_bind (wpAny_sequenceKey ht.typeIs (by decide) ?_)
  refine wpAny_bind (wpAny_callSpecial?_slot (name := Str.ofString "__getitem__") ht.typeIs PyProof.Rows.slot_tuple_getitem
    (wpAny_call_entry PyProof.Rows.slot_tuple_getitem ht.typeIs entry_tuple_getitem ?_ (args_tuple_getitem _ _)))
  show wpAny _ _ (Builtin.Tuple.tupleItemsOf (.ref t) >>= _) _ _ s
  refine wpAny_bind (tupleItemsOf_ ht ?_)
  refine wpAny_bind (wpAny_typeOf hTs ?_)
  rw [if_pos (by decide)]
  refine wpAny_bind (sliceApplied_rev (n := items.size) hs pl pu ps ?_)
  have hno : ¬ ((((items.size : Int) - 1) == 0 && (-1 : Int) == 1 && items.size == items.size) = true) := by
    intro q
    rw [Bool.and_eq_true, Bool.and_eq_true] at q
    exact absurd q.1.2 (by decide)
  show wpAny _ _ (if (((items.size : Int) - 1) == 0 && (-1 : Int) == 1 && items.size == items.size) = true then _ else _) _ _ s
  rw [if_neg hno, pick_rev]
  first
    | exact wpAny_bind (m := Builtin.Tuple.tupleExact _) (wpAny_newObj_type (wpAny_pure ⟨_, rfl, wpAny_pure h⟩) htake)
    | exact wpAny_bind (m := Builtin.Tuple.tupleExact _) (wpAny_newObj_type (wpAny_bind (wpAny_pure (wpAny_pure ⟨_, rfl, wpAny_pure h⟩))) htake)
    | exact wpAny_bind (wpAny_bind (m := Builtin.Tuple.tupleExact _) (wpAny_newObj_type (wpAny_pure (wpAny_pure ⟨_, rfl, wpAny_pure h⟩)) htake))
    | exact wpAny_bind (wpAny_bind (m := Builtin.Tuple.tupleExact _) (wpAny_newObj_type (wpAny_pure ⟨_, rfl, wpAny_pure h⟩) htake))
end
section
variable {X : Cx} {W : WN}
def rRev2 (K : PySem.W.Frag) (x : V) (H1 : Hp) (Q : VK) : Prop := (∃ a xs, x = .ref a ∧ SqL K H1 a xs ∧ ∀ p, H1 p = none → Q (.ref p) (upd H1 p (.lst xs.reverse))) ∨ ∃ a xs, x = .ref a ∧ SqT K H1 a xs ∧ ∀ p, H1 p = none → Q (.ref p) (upd H1 p (.tup xs.reverse))
omit [TabCtx] in
theorem pe_rev2 {e : Expr} {te : TE} {k : Nat} {p1 p2 p3 pos : Pos} (he : PE X e te) : PE X (.Subscript e (.Slice none none (some (.UnaryOp .USub (.Constant (.int 1) k p1) p2)) p3) pos) (fun σ H Q => te σ H fun x H1 => rRev2 X.K x H1 Q) := by
  refine ⟨fun pins s σ H Q I h => ?_⟩
  refine Subscript_ (thn (he.run pins s σ H _ I h) fun v s1 ⟨x, H1, I1, r1, q1⟩ => ?_)
  have hst : PO X (some (.UnaryOp .USub (.Constant (.int 1) k p1) p2)) (tPart (tUn (rU fun i => .int (-i)) (tC (.int 1)))) := po_some (pe_un un_neg pe_int)
  refine wpAny_Slice (thn (po_none.run pins s1 σ H1 (fun o H2 => o = none ∧ H2 = H1) I1 ⟨rfl, rfl⟩) fun vl s2 ⟨l, H2, I2, pl, el, e2⟩ => ?_)
  subst el e2
  refine thn (po_none.run pins s2 σ H2 (fun o H3 => o = none ∧ H3 = H2) I2 ⟨rfl, rfl⟩) fun vu s3 ⟨u, H3, I3, pu, eu, e3⟩ => ?_
  subst eu e3
  refine thn (hst.run pins s3 σ H3 (fun o H4 => o = some (-1) ∧ H4 = H3) I3 ⟨1, rfl, -1, rfl, rfl, rfl⟩) fun vs s4 ⟨o, H4, I4, ps, eo, e4⟩ => ?_
  subst eo e4
  have I5 : L2.Inv X pins σ H4 { s4 with heap := s4.heap.push { cls := .type "slice", data := .fields #[vl, vu, vs] } } := I4.kept (t' := s4.toks) fun b ob q => Heap.get?_push_of_some _ q
  rcases q1 with ⟨a, xs, ex, hx, q⟩ | ⟨a, xs, ex, hx, q⟩
  · subst ex
    cases r1
    obtain ⟨its, r, ht, hz⟩ := I5.list hx
    have hlen := r.length
    show wpAny (model X.prog X.w) X.A (subscriptTail e (.Slice none none (some (.UnaryOp .USub (.Constant (.int 1) k p1) p2)) p3) (.ref a) (.ref s4.heap.objs.size)) (EP X pins σ Q) X.xe { s4 with heap := s4.heap.push { cls := .type "slice", data := .fields #[vl, vu, vs] } }
    refine tail_any (ops := [.ref a, .ref s4.heap.objs.size]) ht.isList.typeIs (PySem.slot_list_getitem.lookup) ?_ (by with_unfolding_all rfl)
    refine wpAny_getItem_list_slice ht.isList (Heap.IsSliceOf.new _ vl vu vs) pl pu ps (by decide) ?_ (by rw [List.size_toArray]; omega)
    rw [PySem.W.krv_pick]
    refine ⟨.ref _, _, I5.laid (t' := s4.toks) (o := .lst xs.reverse) (fun b ob q => Heap.get?_push_of_some _ q) (Nat.le_refl _) ?_, rfl, q _ (I5.hok.fresh (Nat.le_refl _))⟩
    exact ⟨by rw [List.length_reverse]; exact hz, _, 0, r.reverse, Heap.get?_push_size _ rfl⟩
  · subst ex
    cases r1
    obtain ⟨its, r, ht, hz⟩ := I5.tuple hx
    have hlen := r.length
    show wpAny (model X.prog X.w) X.A (subscriptTail e (.Slice none none (some (.UnaryOp .USub (.Constant (.int 1) k p1) p2)) p3) (.ref a) (.ref s4.heap.objs.size)) (EP X pins σ Q) X.xe { s4 with heap := s4.heap.push { cls := .type "slice", data := .fields #[vl, vu, vs] } }
    refine tail_any (ops := [.ref a, .ref s4.heap.objs.size]) ht.typeIs (PyProof.Rows.slot_tuple_getitem.lookup) ?_ (by with_unfolding_all rfl)
    refine getItem_tuple_rev ht (Heap.IsSliceOf.new _ vl vu vs) pl pu ps ?_ (by rw [List.size_toArray]; omega)
    refine ⟨.ref _, _, I5.laid (t' := s4.toks) (o := .tup xs.reverse) (fun b ob q => Heap.get?_push_of_some _ q) (Nat.le_refl _) ?_, rfl, q _ (I5.hok.fresh (Nat.le_refl _))⟩
    exact ⟨by rw [List.length_reverse]; exact hz, _, r.reverse, IsTup.new _ _⟩
def sRev2 : D → Option Rn
  | .tup xs => some (.f (.tup xs.reverse))
  | d => sRev d
theorem rev2_l (xs : List D) : sRev2 (.lst xs) = some (.t (.lst xs.reverse)) := rfl
theorem rev2_t (xs : List D) : sRev2 (.tup xs) = some (.f (.tup xs.reverse)) := rfl
theorem de_rev2 {e : Expr} {g : Cs → Out RV} {k : Nat} {p1 p2 p3 pos : Pos} (h : DE X W e g) : DE X W (.Subscript e (.Slice none none (some (.UnaryOp .USub (.Constant (.int 1) k p1) p2)) p3) pos) (g1 sRev2 g) := by
  intro H0 F0 ts env F σ H Q R p
  refine PE.sem (pe_rev2 pe_sem) (one_ok (r := fun x H1 Q => rRev2 X.K x H1 Q) (fun F H d v Q s hd p => ?_) h R p)
  cases d with
  | lst xs =>
    obtain ⟨a, vs, rfl, h1, t1⟩ := hd.lst s
    exact .inl ⟨a, vs, rfl, SqL.of h1, fun b hb => PV.newL s p t1.rev b hb⟩
  | tup xs =>
    obtain ⟨a, vs, rfl, h1, t1⟩ := hd.tup s
    exact .inr ⟨a, vs, rfl, SqT.of h1, fun b hb => PV.newT s p t1.rev b hb⟩
  | _ => exact p.elim
/-! ### x in xs, x a tuple or so -/
def inDeep (x : D) (xs : List D) : Option Bool := match py x, pyL xs with
  | some p, some ps => if SeqAt.shaped p = true ∧ SeqAt.shaped (.list ps) = true then some (ps.any fun z => PyData.eqv z p) else none
  | _, _ => none
def isIn2 (x y : D) : Option Bool := match x, y with
  | .tup ds, .lst xs => inDeep (.tup ds) xs
  | x, y => isIn x y
def sIn2 (x y : D) : Option Rn := (isIn2 x y).map fun b => .f (.bl b)
def sNotIn2 (x y : D) : Option Rn := (isIn2 x y).map fun b => .f (.bl (!b))
def rIn2 (K : PySem.W.Frag) : R2 := fun x y H Q => DL.rInD K false x y H Q ∨ L2.rInD K x y H Q
def rNotIn2 (K : PySem.W.Frag) : R2 := fun x y H Q => DL.rInD K true x y H Q ∨ L2.rNotInD K x y H Q
theorem op_in2 (hu : X.A.units + 66 < cLine) : OpR X (compareOp .In) (rIn2 X.K) := OpR.or (DL.op_inD (by omega)) (L2.op_inD (by omega))
theorem op_notIn2 (hu : X.A.units + 66 < cLine) : OpR X (compareOp .NotIn) (rNotIn2 X.K) := OpR.or (DL.op_notInD (by omega)) (L2.op_notInD (by omega))
theorem inDeep_ok {K : PySem.W.Frag} {F H : Hp} {x : D} {xs : List D} {v u : V} {b : Bool} (s : Same F H) (hx : Top K F H x v) (hy : Top K F H (.lst xs) u) (h : inDeep x xs = some b) : ∃ d ds, Dp K H v d ∧ Dp K H u (.list ds) ∧ SeqAt.shaped d = true ∧ SeqAt.shaped (.list ds) = true ∧ (ds.any fun z => PyData.eqv z d) = b := by
  unfold inDeep at h
  cases e1 : py x with
  | none => rw [e1] at h; cases h
  | some p =>
    cases e2 : pyL xs with
    | none => rw [e1, e2] at h; cases h
    | some ps =>
      rw [e1, e2] at h
      dsimp only at h
      split at h
      · rename_i c
        cases h
        exact ⟨p, ps, hx.dp s e1, hy.dp s (by simp [py, e2]), c.1, c.2, rfl⟩
      · cases h
theorem v_in2 {K : PySem.W.Frag} : V2 K (rIn2 K) sIn2 := by
  intro F H d e v u Q s hd he p
  by_cases c : ∃ ds xs, d = .tup ds ∧ e = .lst xs
  · obtain ⟨ds, xs, rfl, rfl⟩ := c
    have p : PV K F H Q ((inDeep (.tup ds) xs).map fun b => .f (.bl b)) := p
    cases q : inDeep (.tup ds) xs with
    | none => rw [q] at p; exact p.elim
    | some b =>
      rw [q] at p
      obtain ⟨x, y, h1, h2, h3, h4, h5⟩ := inDeep_ok s hd he q
      exact .inr ⟨x, y, h1, h2, h3, h4, by rw [h5]; exact PV.f s p rfl⟩
  · have e2 : sIn2 d e = sIn d e := by
      unfold sIn2 sIn isIn2
      split
      · exact absurd ⟨_, _, rfl, rfl⟩ c
      · rfl
    rw [e2] at p
    exact .inl (v_in F H d e v u Q s hd he p)
theorem v_notIn2 {K : PySem.W.Frag} : V2 K (rNotIn2 K) sNotIn2 := by
  intro F H d e v u Q s hd he p
  by_cases c : ∃ ds xs, d = .tup ds ∧ e = .lst xs
  · obtain ⟨ds, xs, rfl, rfl⟩ := c
    have p : PV K F H Q ((inDeep (.tup ds) xs).map fun b => .f (.bl (!b))) := p
    cases q : inDeep (.tup ds) xs with
    | none => rw [q] at p; exact p.elim
    | some b =>
      rw [q] at p
      obtain ⟨x, y, h1, h2, h3, h4, h5⟩ := inDeep_ok s hd he q
      exact .inr ⟨x, y, h1, h2, h3, h4, by rw [h5]; exact PV.f s p rfl⟩
  · have e2 : sNotIn2 d e = sNotIn d e := by
      unfold sNotIn2 sNotIn isIn2
      split
      · exact absurd ⟨_, _, rfl, rfl⟩ c
      · rfl
    rw [e2] at p
    exact .inl (v_notIn F H d e v u Q s hd he p)
theorem in2_s (a : Str) (y : D) : sIn2 (.str a) y = sIn (.str a) y := by unfold sIn2 isIn2 sIn; cases y <;> rfl
theorem in2_i (a : Int) (y : D) : sIn2 (.int a) y = sIn (.int a) y := by unfold sIn2 isIn2 sIn; cases y <;> rfl
theorem notIn2_s (a : Str) (y : D) : sNotIn2 (.str a) y = sNotIn (.str a) y := by unfold sNotIn2 isIn2 sNotIn; cases y <;> rfl
theorem notIn2_i (a : Int) (y : D) : sNotIn2 (.int a) y = sNotIn (.int a) y := by unfold sNotIn2 isIn2 sNotIn; cases y <;> rfl
theorem notIn2_T (ks : List D) (es : List (List Key × D)) : sNotIn2 (.tup ks) (.dT es) = sNotIn (.tup ks) (.dT es) := rfl
/-! equations -/
theorem list2_l (xs : List D) : sListOf2 (.lst xs) = some (.t (.lst xs)) := rfl
theorem list2_t (xs : List D) : sListOf2 (.tup xs) = some (.t (.lst xs)) := rfl
theorem list2_k (es : List (Key × D)) : sListOf2 (.dK es) = some (.t (.lst (es.map fun e => kD e.1))) := rfl
theorem list2_T (es : List (List Key × D)) : sListOf2 (.dT es) = some (.t (.lst (es.map fun e => kT e.1))) := rfl
theorem itK_dT (es : List (List Key × D)) (env : Cs) : itK (.dT es) env = .ok (es.map fun e => kT e.1) env := rfl
theorem vG_T (gk gx : Cs → Out RV) (r1 : RV) (env1 : Cs) (es : List (List Key × D)) : vG gk gx r1 env1 (some (.dT es)) = (gSet gk env1).bind fun k env2 => (gSet gx env2).bind (getK r1 k) := rfl
def kS (p : List Str) : List Key := p.map Sum.inr
def encPa (p : List Str) : D := .tup (p.map D.str)
theorem asKeys_S : ∀ p : List Str, asKeys (p.map D.str) = some (kS p)
  | [] => rfl
  | n :: p => by rw [List.map_cons, asKeys, asKeys_S p]; rfl
theorem kT_S (p : List Str) : kT (kS p) = encPa p := by unfold kT kS encPa; rw [List.map_map]; rfl
theorem kS_inj : ∀ {p q : List Str}, kS p = kS q → p = q
  | [], [], _ => rfl
  | [], _ :: _, h => by cases h
  | _ :: _, [], h => by cases h
  | a :: p, b :: q, h => by
    have h : Sum.inr a :: kS p = Sum.inr b :: kS q := h
    injection h with h1 h2
    rw [Sum.inr.inj h1, kS_inj h2]
theorem vG2_T (p : List Str) (x : D) (env : Cs) (es : List (List Key × D)) : vG2 (.tup (p.map D.str)) x env (some (.dT es)) = .ok (.frz ((look es (kS p)).getD x)) env := by
  unfold vG2
  have e : dget (.dT es) (.tup (p.map D.str)) = some (look es (kS p)) := by
    show (asKeys (p.map D.str)).map (fun k => look es k) = _
    rw [asKeys_S]; rfl
  dsimp only
  rw [e]
  cases look es (kS p) <;> rfl
theorem vU2_T (i : Nat) (v : D) (p : List Str) (env : Cs) (es : List (List Key × D)) : vU2 i v (.tup (p.map D.str)) env (some (.own (.dT es))) = if sz (es.length + 1) = true then .nx (env.set i (.own (.dT (put es (kS p) v)))) else .stuck := by
  unfold vU2
  have e : putD (.dT es) (.tup (p.map D.str)) v = if sz (es.length + 1) = true then some (.dT (put es (kS p) v)) else none := by
    show (match asKeys (p.map D.str) with | some k => if sz (es.length + 1) = true then some (D.dT (put es k v)) else none | none => none) = _
    rw [asKeys_S]
  dsimp only
  rw [e]
  split <;> simp_all
theorem notIn2_d (p : List Str) (es : List (List Key × D)) : sNotIn2 (.tup (p.map D.str)) (.dT es) = some (.f (.bl (!(look es (kS p)).isSome))) := by
  show ((dget (.dT es) (.tup (p.map D.str))).map Option.isSome).map _ = _
  have e : dget (.dT es) (.tup (p.map D.str)) = some (look es (kS p)) := by
    show (asKeys (p.map D.str)).map (fun k => look es k) = _
    rw [asKeys_S]; rfl
  rw [e]
  rfl
theorem ix_T2 {es : List (List Key × D)} {p : List Str} {d : D} (h : look es (kS p) = some d) : sIx (.dT es) (.tup (p.map D.str)) = some (.f d) := by
  show (match dget (.dT es) (.tup (p.map D.str)) with | some (some d') => some (Rn.f d') | _ => none) = _
  have e : dget (.dT es) (.tup (p.map D.str)) = some (look es (kS p)) := by
    show (asKeys (p.map D.str)).map (fun k => look es k) = _
    rw [asKeys_S]; rfl
  rw [e, h]
end
end DL

namespace DL
open PySem PySem.Spec PyProof.Rows L2
variable [TabCtx]
variable {X : Cx} {W : WN}
/-! ### methods of texts with one argument -/
def gM1 (s : Str → D → Option Rn) (go ge : Cs → Out RV) : Cs → Out RV := fun env => (go env).bind fun r1 env1 => match valOf env1 r1 with
  | some (.str a) => (ge env1).bind fun r2 env2 => match valOf env2 r2 with
    | some d => outR env2 (s a d)
    | none => .stuck
  | _ => .stuck
theorem m1_ok {o e : Expr} {go ge : Cs → Out RV} {r : V → List V → Hp → VK → Prop} {s : Str → D → Option Rn} (h : ∀ (F H : Hp) (a : Str) (d : D) (v : V) (Q : VK), Same F H → Top X.K F H d v → PV X.K F H Q (s a d) → r (.str a) [v] H Q) (ho : DE X W o go) (he : DE X W e ge) {H0 F0 : Hp} {ts : List (Addr × D)} {env : Cs} {F : Hp} {σ : L2.St} {H : Hp} {Q : VK}
    (R : Rs X.K H0 F0 ts env F σ H) (p : PoE X.K W H0 F0 ts F σ Q (gM1 s go ge env)) : tM1 r (eS X o) (eS X e) σ H Q := by
  refine ho H0 F0 ts env F σ H _ R ?_
  unfold gM1 at p
  cases q : go env with
  | stuck => rw [q] at p; exact p.elim
  | exc c => rw [q] at p; exact p
  | ok r1 env1 =>
    rw [q] at p
    dsimp only [Out.bind] at p
    intro v F1 H1 R1 h1 s1
    split at p
    · rename_i a z
      have top := h1.top R1 z
      have ev : v = .str a := by
        rcases top with t | ⟨_, _, t⟩
        · exact t
        · exact t.elim
      subst ev
      refine ⟨⟨a, rfl⟩, he H0 F0 _ env1 F1 σ H1 _ R1 ?_⟩
      cases q2 : ge env1 with
      | stuck => rw [q2] at p; exact p.elim
      | exc c => rw [q2] at p; exact p
      | ok r2 env2 =>
        rw [q2] at p
        dsimp only at p
        intro y F2 H2 R2 h2 s2
        split at p
        · rename_i d z2
          have top2 := h2.top R2 z2
          exact h F2 H2 a d y Q R2.fh top2 (PV.of R2.untmp.untmp (s1.trans s2) p)
        · exact p.elim
    · exact p.elim
def sSplit (a : Str) (d : D) : Option Rn := match d with
  | .str b => if (b.length == 0) = false ∧ a.length + 2 ≤ 16777216 then some (.t (.lst ((Txt.split a b).map .str))) else none
  | _ => none
theorem de_split {o e : Expr} {go ge : Cs → Out RV} {apos pos : Pos} (ho : DE X W o go) (he : DE X W e ge) (hs : starEach [e] X.env = [(false, eval e X.env)] := by rfl) (hbase : attributeBase o "split" X.env (eval o X.env) = eval o X.env := by rfl) (hline : (apos.endLine == pos.line) = true := by rfl) :
    DE X W (.Call (.Attribute o "split" apos) [e] [] pos) (gM1 sSplit go ge) := by
  intro H0 F0 ts env F σ H Q R p
  refine PE.sem (pe_split pe_sem pe_sem hs hbase hline) (m1_ok (fun F H a d v Q s hd p => ?_) ho he R p)
  cases d with
  | str b =>
    have ev : v = .str b := by
      rcases hd with t | ⟨_, _, t⟩
      · exact t
      · exact t.elim
    subst ev
    dsimp only [sSplit] at p
    split at p
    · rename_i c
      refine ⟨a, b, rfl, rfl, c.1, by rw [sizeLine_eq]; exact c.2, fun q hq => ?_⟩
      exact PV.newL s p DvL.of_strs q hq
    · exact p.elim
  | _ => exact p.elim
def joinOk (a : Str) (ys : List Str) : Bool := decide ((ys.map (·.length)).sum + ys.length * a.length ≤ 16777216)
def sJoin (a : Str) (d : D) : Option Rn := match d with
  | .lst xs => match asStrs xs with
    | some ys => if joinOk a ys = true then some (.f (.str (Txt.join a ys))) else none
    | none => none
  | .tup xs => match asStrs xs with
    | some ys => if joinOk a ys = true then some (.f (.str (Txt.join a ys))) else none
    | none => none
  | _ => none
theorem de_join {o e : Expr} {go ge : Cs → Out RV} {apos pos : Pos} (ho : DE X W o go) (he : DE X W e ge) (hs : starEach [e] X.env = [(false, eval e X.env)] := by rfl) (hbase : attributeBase o "join" X.env (eval o X.env) = eval o X.env := by rfl) (hline : (apos.endLine == pos.line) = true := by rfl) :
    DE X W (.Call (.Attribute o "join" apos) [e] [] pos) (gM1 sJoin go ge) := by
  intro H0 F0 ts env F σ H Q R p
  refine PE.sem (pe_join pe_sem pe_sem hs hbase hline) (m1_ok (fun F H a d v Q s hd p => ?_) ho he R p)
  cases d with
  | lst xs =>
    obtain ⟨b, vs, rfl, h1, t1⟩ := hd.lst s
    dsimp only [sJoin] at p
    split at p
    · rename_i ys q
      split at p
      · rename_i c
        have e := asStrs_eq q
        subst e
        have ev := t1.strs
        subst ev
        exact ⟨a, b, ys, rfl, rfl, .inl (SqL.of h1), of_decide_eq_true c, PV.f s p rfl⟩
      · exact p.elim
    · exact p.elim
  | tup xs =>
    obtain ⟨b, vs, rfl, h1, t1⟩ := hd.tup s
    dsimp only [sJoin] at p
    split at p
    · rename_i ys q
      split at p
      · rename_i c
        have e := asStrs_eq q
        subst e
        have ev := t1.strs
        subst ev
        exact ⟨a, b, ys, rfl, rfl, .inr (SqT.of h1), of_decide_eq_true c, PV.f s p rfl⟩
      · exact p.elim
    · exact p.elim
  | _ => exact p.elim
/-! ### str(int), int(text) -/
def sStr : D → Option Rn
  | .int i => if i.natAbs.log2 < 1920 then some (.f (.str (toString i))) else none
  | _ => none
theorem v_str {K : PySem.W.Frag} : V1 K (fun v H Q => ∃ i : Int, [v] = [V.int i] ∧ i.natAbs.log2 < 1920 ∧ Q (.str (toString i)) H) sStr := by
  intro F H d v Q s hd p
  cases d with
  | int i =>
    cases hd.int
    dsimp only [sStr] at p
    split at p
    · rename_i c; exact ⟨i, rfl, c, PV.f s p rfl⟩
    · exact p.elim
  | _ => exact p.elim
def sInt2 : D → Option Rn
  | .str a => match PySem.intText? a with
    | some n => if a.length ≤ 640 then some (.f (.int n)) else none
    | none => none
  | d => sInt d
def rInt2 : List V → Hp → VK → Prop := fun xs H Q => ((∃ i, xs = [.int i] ∧ Q (.int i) H) ∨ ∃ k, xs = [.bl k] ∧ Q (.int (if k then 1 else 0)) H) ∨ ∃ a n, xs = [.str a] ∧ PySem.intText? a = some n ∧ a.length ≤ 640 ∧ Q (.int n) H
omit [TabCtx] in
theorem call_int2 : CallR X (.type "int") rInt2 := by
  intro pins s σ H xs us Q I r h
  rcases h with h | h
  · exact call_int1 pins s σ H xs us Q I r h
  · exact call_int_str pins s σ H xs us Q I r h
theorem v_int2 {K : PySem.W.Frag} : V1 K (fun v H Q => rInt2 [v] H Q) sInt2 := by
  intro F H d v Q s hd p
  cases d with
  | str a =>
    have ev : v = .str a := by
      rcases hd with t | ⟨_, _, t⟩
      · exact t
      · exact t.elim
    subst ev
    dsimp only [sInt2] at p
    split at p
    · rename_i n q
      split at p
      · rename_i c; exact .inr ⟨a, n, rfl, q, c, PV.f s p rfl⟩
      · exact p.elim
    · exact p.elim
  | int i => exact .inl (v_int F H _ v Q s hd p)
  | bl i => exact .inl (v_int F H _ v Q s hd p)
  | _ => exact p.elim
theorem int2_i (i : Int) : sInt2 (.int i) = some (.f (.int i)) := rfl
theorem int2_b (b : Bool) : sInt2 (.bl b) = some (.f (.int (b2 b))) := rfl
/-! ### a text's signs -/
def sIxS (d e : D) : Option Rn := match d, e with
  | .str z, .int i => if z.length ≤ 16777216 then (L2.atI z.cps.toList i).map fun c => .f (.str ⟨#[c]⟩) else none
  | _, _ => none
theorem v_ixS {K : PySem.W.Frag} : V2 K rIxS sIxS := by
  intro F H d e v u Q s hd he p
  cases d with
  | str z =>
    cases e with
    | int i =>
      have ev : v = .str z := by
        rcases hd with t | ⟨_, _, t⟩
        · exact t
        · exact t.elim
      subst ev
      cases he.int
      dsimp only [sIxS] at p
      split at p
      · rename_i c
        cases q : L2.atI z.cps.toList i with
        | none => rw [q] at p; exact p.elim
        | some c2 => rw [q] at p; exact ⟨z, i, c2, rfl, rfl, by rw [sizeLine_eq]; exact c, q, PV.f s p rfl⟩
      · exact p.elim
    | _ => exact p.elim
  | _ => exact p.elim
/-! ### a text's parts -/
def gSlS (g : Cs → Out RV) (gl gh : Cs → Out (Option Int)) : Cs → Out RV := fun env => (g env).bind fun r env1 => (gl env1).bind fun lo env2 => (gh env2).bind fun hi env3 => match valOf env3 r with
  | some (.str z) => if z.length ≤ 16777216 then .ok (.frz (.str (cutS z lo hi))) env3 else .stuck
  | _ => .stuck
theorem de_sliceS {e : Expr} {lo hi : Option Expr} {g : Cs → Out RV} {gl gh : Cs → Out (Option Int)} {p2 pos : Pos} (h : DE X W e g) (hl : DO X W lo gl) (hh : DO X W hi gh) : DE X W (.Subscript e (.Slice lo hi none p2) pos) (gSlS g gl gh) := by
  obtain ⟨tl, pl, hl⟩ := hl
  obtain ⟨th, ph, hh⟩ := hh
  intro H0 F0 ts env F σ H Q R p
  refine PE.sem (pe_slice sl_str pe_sem pl ph) (h H0 F0 ts env F σ H _ R ?_)
  unfold gSlS at p
  cases q : g env with
  | stuck => rw [q] at p; exact p.elim
  | exc c => rw [q] at p; exact p
  | ok r env1 =>
    rw [q] at p
    dsimp only [Out.bind] at p
    intro v F1 H1 R1 h1 s1
    refine hl H0 F0 _ env1 F1 σ H1 _ R1 ?_
    cases q2 : gl env1 with
    | stuck => rw [q2] at p; exact p.elim
    | exc c => rw [q2] at p; exact p
    | ok lo' env2 =>
      rw [q2] at p
      dsimp only at p
      intro F2 H2 R2 s2
      refine hh H0 F0 _ env2 F2 σ H2 _ R2 ?_
      cases q3 : gh env2 with
      | stuck => rw [q3] at p; exact p.elim
      | exc c => rw [q3] at p; exact p
      | ok hi' env3 =>
        rw [q3] at p
        dsimp only at p
        intro F3 H3 R3 s3
        have s13 := s1.trans (s2.trans s3)
        split at p
        · rename_i z e
          have hT := (h1.mono (s2.trans s3) fun _ m => m).top R3 e
          have ev : v = .str z := by
            rcases hT with t | ⟨_, _, t⟩
            · exact t
            · exact t.elim
          subst ev
          split at p
          · rename_i c
            exact ⟨z, rfl, by rw [sizeLine_eq]; exact c, p _ _ _ R3.untmp rfl s13⟩
          · exact p.elim
        · exact p.elim
/-! ### range with a step -/
def rg3 (i j c : Int) : Bool := decide (c ≠ 0) && (decide (c.natAbs < 1073741824) && (Builtin.Range.small i j c && decide (0 ≤ Builtin.Range.rangeSize i j c)))
def rngC (i j c : Int) : List D := (List.range (Builtin.Range.rangeSize i j c).toNat).map fun k : Nat => .int (i + (k : Nat) * c)
theorem itc_ok {K : PySem.W.Frag} {F : Hp} (i j c : Int) : ItOk K (Itc i c (Builtin.Range.rangeSize i j c).toNat) F (rngC i j c) := by
  intro F' H' s1 s2
  refine ⟨fun n d e => ?_, by show (Builtin.Range.rangeSize i j c).toNat ≤ _; simp [rngC]⟩
  unfold rngC at e
  rw [List.getElem?_map] at e
  cases q : (List.range (Builtin.Range.rangeSize i j c).toNat)[n]? with
  | none => rw [q] at e; cases e
  | some m =>
    rw [q] at e
    cases e
    obtain ⟨hl, e⟩ := List.getElem?_eq_some_iff.mp q
    simp only [List.getElem_range] at e
    subst e
    refine ⟨by rw [List.length_range] at hl; exact hl, fun x H'' hy => ?_⟩
    obtain ⟨rfl, rfl⟩ := hy
    exact ⟨F', .refl s2, rfl⟩
def r3K (d e f : D) (env : Cs) : Out (List D) := match d, e, f with
  | .int i, .int j, .int c => if rg3 i j c = true then .ok (rngC i j c) env else .stuck
  | _, _, _ => .stuck
def giR3 (ga gb gc : Cs → Out RV) : Cs → Out (List D) := fun env => (gSet ga env).bind fun d env1 => (gSet gb env1).bind fun e env2 => (gSet gc env2).bind fun f env3 => r3K d e f env3
theorem di_range3 {tg a b c : Expr} {ga gb gc : Cs → Out RV} {p0 pos : Pos} (hg : Gl X "range") (hm : X.mg "range" = none) (ha : DE X W a ga) (hb : DE X W b gb) (hc : DE X W c gc) (hs : starEach [a, b, c] X.env = (false, eval a X.env) :: starEach [b, c] X.env := by rfl)
    (hs2 : starEach [b, c] X.env = (false, eval b X.env) :: starEach [c] X.env := by rfl) (hs3 : starEach [c] X.env = (false, eval c X.env) :: starEach [] X.env := by rfl) (hpl : (backTo pos (starEach [b, c] X.env)).any (·.1) = false := by rfl) : DI X W tg (.Call (.Name "range" p0) [a, b, c] [] pos) (giR3 ga gb gc) := by
  intro H0 F0 ts env F σ H Q R p
  refine PI.sem (pi_range3 (ta := tCons (eS X a) (tCons (eS X b) (tCons (eS X c) tNil))) hg hm (pa_cons pe_sem (pa_cons pe_sem (pa_cons pe_sem pa_nil hs3) hs2) hs) hs hpl) (ha.df H0 F0 ts env F σ H _ R ?_)
  unfold giR3 at p
  cases q : gSet ga env with
  | stuck => rw [q] at p; exact p.elim
  | exc c => rw [q] at p; exact p
  | ok d env1 =>
    rw [q] at p
    dsimp only [Out.bind] at p
    intro v F1 H1 R1 h1 s1
    refine hb.df H0 F0 ts env1 F1 σ H1 _ R1 ?_
    cases q2 : gSet gb env1 with
    | stuck => rw [q2] at p; exact p.elim
    | exc c => rw [q2] at p; exact p
    | ok e env2 =>
      rw [q2] at p
      dsimp only at p
      intro w F2 H2 R2 h2 s2
      refine hc.df H0 F0 ts env2 F2 σ H2 _ R2 ?_
      cases q3 : gSet gc env2 with
      | stuck => rw [q3] at p; exact p.elim
      | exc c => rw [q3] at p; exact p
      | ok f env3 =>
        rw [q3] at p
        dsimp only at p
        intro u F3 H3 R3 h3 s3
        cases d with
        | int i =>
          cases e with
          | int j =>
            cases f with
            | int k =>
              cases (show v = .int i from h1)
              cases (show w = .int j from h2)
              cases (show u = .int k from h3)
              dsimp only [r3K] at p
              split at p
              · rename_i hz
                unfold rg3 at hz
                rw [Bool.and_eq_true, Bool.and_eq_true, Bool.and_eq_true, decide_eq_true_eq, decide_eq_true_eq, decide_eq_true_eq] at hz
                exact ⟨i, j, k, _, rfl, ⟨hz.1, hz.2.1, hz.2.2.1, (Int.toNat_of_nonneg hz.2.2.2).symm⟩, p _ F3 H3 R3 (s1.trans (s2.trans s3)) (itc_ok i j k)⟩
              · exact p.elim
            | _ => exact p.elim
          | _ => exact p.elim
        | _ => exact p.elim
/-! equations -/
def m1K (s : Str → D → Option Rn) (a : Str) (r : RV) (env : Cs) : Out RV := match valOf env r with
  | some d => outR env (s a d)
  | none => .stuck
def m1V (s : Str → D → Option Rn) (ge : Cs → Out RV) (env : Cs) : Option D → Out RV
  | some (.str a) => (ge env).bind (m1K s a)
  | _ => .stuck
theorem e_gM1 (s : Str → D → Option Rn) (go ge : Cs → Out RV) (env : Cs) : gM1 s go ge env = (go env).bind fun r1 env1 => m1V s ge env1 (valOf env1 r1) := rfl
theorem m1V_s (s : Str → D → Option Rn) (ge : Cs → Out RV) (env : Cs) (a : Str) : m1V s ge env (some (.str a)) = (ge env).bind (m1K s a) := rfl
def m1W (s : Str → D → Option Rn) (a : Str) (env : Cs) : Option D → Out RV
  | some d => outR env (s a d)
  | none => .stuck
theorem m1K_v (s : Str → D → Option Rn) (a : Str) (r : RV) (env : Cs) : m1K s a r env = m1W s a env (valOf env r) := rfl
theorem m1W_s (s : Str → D → Option Rn) (a : Str) (d : D) (env : Cs) : m1W s a env (some d) = outR env (s a d) := rfl
def slS (lo hi : Option Int) (env : Cs) : Option D → Out RV
  | some (.str z) => if z.length ≤ 16777216 then .ok (.frz (.str (cutS z lo hi))) env else .stuck
  | _ => .stuck
theorem e_gSlS (g : Cs → Out RV) (gl gh : Cs → Out (Option Int)) (env : Cs) : gSlS g gl gh env = (g env).bind fun r env1 => (gl env1).bind fun lo env2 => (gh env2).bind fun hi env3 => slS lo hi env3 (valOf env3 r) := rfl
theorem slS_s (lo hi : Option Int) (env : Cs) (z : Str) (h : z.length ≤ 16777216) : slS lo hi env (some (.str z)) = .ok (.frz (.str (cutS z lo hi))) env := if_pos h
theorem e_joinL (a : Str) (ys : List Str) (h : joinOk a ys = true) : sJoin a (.lst (ys.map D.str)) = some (.f (.str (Txt.join a ys))) := by
  unfold sJoin
  dsimp only
  rw [asStrs_map]
  exact if_pos h
theorem e_joinT (a : Str) (ys : List Str) (h : joinOk a ys = true) : sJoin a (.tup (ys.map D.str)) = some (.f (.str (Txt.join a ys))) := by
  unfold sJoin
  dsimp only
  rw [asStrs_map]
  exact if_pos h
theorem e_split (a b : Str) (h : (b.length == 0) = false) (h' : a.length + 2 ≤ 16777216) : sSplit a (.str b) = some (.t (.lst ((Txt.split a b).map .str))) := if_pos ⟨h, h'⟩
theorem e_strI (i : Int) (h : i.natAbs.log2 < 1920) : sStr (.int i) = some (.f (.str (toString i))) := if_pos h
theorem e_catS {a b : Str} (h : a.length + b.length ≤ 16777216) : sAdd (.str a) (.str b) = some (.f (.str (a ++ b))) := if_pos (decide_eq_true h)
end DL

namespace DL
open PySem PySem.Spec PyProof.Rows L2 LamX
/-! ### sorted(range, key=lambda at: (0 - found[at][0], at)) -/
section
variable {prog : Program} {w : World} {A : Around} {E : Value → Shared → Prop} {s : Shared}
theorem each_mapR {α β γ : Type} {P : α → γ → Prop} {g : β → γ} : ∀ {l : List α} {m : List β}, PySem.W.EachIs (fun a b => P a (g b)) l m → PySem.W.EachIs P l (m.map g)
  | _, _, .nil => .nil
  | _, _, .cons r t => .cons r (each_mapR t)
theorem each_range : ∀ (l : List Value) (P : Value → Nat → Prop), (∀ j v, l[j]? = some v → P v j) → PySem.W.EachIs P l (List.range l.length)
  | [], _, _ => .nil
  | v :: l, P, h => by
    rw [List.length_cons, List.range_succ_eq_map]
    refine .cons (h 0 v rfl) ?_
    have := each_range l (fun v j => P v (j + 1)) fun j v e => h (j + 1) v e
    exact each_mapR this
/-- a lambda of one parameter called -/
theorem lam_call1 {f c' : Addr} {qual x : Str} {params : Arguments} {body : Expr} {scope : Scope} {cl : List (Str × Addr)} {pm ctv v : Value} {Q : Value → Shared → Prop}
    (hroom : A.depth < recursionLimit) (of_ : s.heap.get? f = some (PySem.W.kla_obj "<lambda>" qual params body scope cl pm c' ctv)) (hcode : s.heap.CodeRec (.ref c') qual)
    (hco : scope.isCoroutine = false) (hgen : scope.isGenerator = false) (hk : scope.kind = .function) (hcell : ∀ y ∈ scope.names, y.2 ≠ .cell) (hx : scope.names.lookup x = some .local)
    (hbind : bindArgs (PySem.W.kla_fn "<lambda>" qual params body scope cl pm (.ref c') ctv) ⟨[v], []⟩ = pure [(x, v)]) (lim : s.heap.NoLimit)
    (h : ∀ h₁ : Heap, h₁.Ns s.heap.objs.size (fun y => [(x, v)].reverse.lookup y) → (∀ b o, s.heap.get? b = some o → h₁.get? b = some o) →
      wpAny (model prog w) (A.deeper (PySem.W.envX qual scope s.heap.objs.size f (.ref c') cl)) (eval body (PySem.W.envX qual scope s.heap.objs.size f (.ref c') cl)) Q (fun _ _ => False) { s with heap := h₁, toks := s.toks + 1 }) :
    wpAny (model prog w) A (call (.ref f) [v]) Q E s := by
  refine wpAny_call (PySem.W.kla_callFunE hroom of_ rfl hco hgen rfl hcode ?_)
  rw [hbind]
  refine wpAny_pure (wpAny_newFunctionEnv hcell (fun y hy => by rw [List.mem_singleton] at hy; rw [hy]; exact hx) (fun h₁ hns hsb => ⟨lim.fresh _ hsb, ?_⟩) hk)
  show codeAny _ _ (.expr body (PySem.W.envX qual scope s.heap.objs.size f (.ref c') cl)) _ _
  have kp : ∀ b o, s.heap.get? b = some o → h₁.get? b = some o := fun b o e => hsb.extBut b o (Nat.ne_of_lt (Heap.lt_size e)) (Heap.get?_push_of_some _ e)
  exact PySem.W.kla_codeExpr (wpAny_mono (h h₁ hns kp) (fun v s' q => q) fun _ _ q => q.elim)
/-- sorted(range(n), key=f) -/
theorem sorted_key_range {r f : Addr} {b : Int} {t u v : Tok} {n : Nat} {Q : Value → Shared → Prop} (k : Nat → PyData) (hh : A.handled = none) (hr : IsRange s.heap r 0 b 1 t u v) (hsmall : Builtin.Range.small 0 b 1 = true) (hn : Builtin.Range.rangeSize 0 b 1 = n) (hlen : n ≤ 2 ^ 24)
    (hal : PySem.W.AllAlike ((List.range n).map k)) (hk : PySem.W.Sortable ((List.range n).map k)) (hu : ∀ j, j < n → A.units + 2 + (k j).depth < cLine)
    (turn : ∀ j, j < n → ∀ (tt : Tok) (h : Heap) (tk : Nat), (∀ b o, s.heap.get? b = some o → h.get? b = some o) →
      wpAny (model prog w) A.in1.in1 (call (.ref f) [.int j tt]) (PySem.W.KeyPure (k j) { s with heap := h, toks := tk }) (fun _ _ => False) { s with heap := h, toks := tk })
    (h : ∀ (D : Addr) (out : List Value) (c : Nat) (h' : Heap) (tk : Nat), s.heap.get? D = none → (∀ b o, s.heap.get? b = some o → h'.get? b = some o) → h'.get? D = some (seqObj "list" (List.toArray out) c) → PySem.W.EachIs (fun v (j : Nat) => ∃ t, v = Value.int j t) out ((List.range n).mergeSort (PySem.W.dataLe false k)) →
      Q (.ref D) { s with heap := h', toks := tk }) :
    wpAny (model prog w) A (call (.builtin "sorted") [.ref r] [(Str.ofString "key", .ref f)]) Q E s := by
  refine call_function_entry_kw kind_sorted plain_sorted entry_sorted (ksk_s1 _ _) ?_
  unfold Builtin.«sorted»
  refine wpAny_bind (m := checkCount "sorted" 1 1 _) (wpAny_pure ?_)
  refine wpAny_bind (collect_range (A := A.in1) hh hr hsmall hn hlen fun h1 tk1 acc hk1 hacc => ?_)
  have hal1 : acc.toList.length = n := by rw [Array.length_toList]; exact hacc.1
  have hE : PySem.W.EachIs (fun v (j : Nat) => ∃ t, v = Value.int j t) acc.toList (List.range n) := by
    rw [← hal1]
    exact each_range acc.toList (fun v j => ∃ t, v = Value.int j t) fun j v e => by
      rw [Array.getElem?_toList] at e
      obtain ⟨t, e⟩ := hacc.2 j v e
      exact ⟨t, by rw [e]; congr 1; omega⟩
  refine wpAny_bind (wpAny_newList ?_ (by rw [hal1, sizeLine_eq]; omega))
  have hoL : (h1.push (seqObj "list" acc.toList.toArray 0)).get? h1.objs.size = some (seqObj "list" acc.toList.toArray 0) := Heap.get?_push_size _ rfl
  have ne : ∀ b o, s.heap.get? b = some o → b ≠ h1.objs.size := fun b o e => Nat.ne_of_lt (Heap.lt_size (hk1 b o e))
  have hge : s.heap.get? h1.objs.size = none := by
    cases q : s.heap.get? h1.objs.size with
    | none => rfl
    | some o => exact absurd rfl (ne _ o q)
  refine wpAny_bind (wpAny_holding (wpAny_call_entry_kw slot_list_sort ⟨_, hoL, rfl⟩ entry_list_sort ?body (ksk_l1 _ _)))
  case body =>
    rw [ksk_t1]
    refine PySem.W.keyH_tree (kz := (List.range n).map k) (s := { s with heap := h1.push (seqObj "list" acc.toList.toArray 0), toks := tk1 }) (vs := acc.toList) hoL (by rw [List.length_map, List.length_range, hal1]) (by rw [hal1, sizeLine_eq]; omega) hal hk (fun d hd => ?_)
      (PySem.W.keyH_turns (s := { s with heap := h1.push (seqObj "list" acc.toList.toArray 0), toks := tk1 }) (bs := List.range n) hE fun v j hR hj h tk kp => ?_) fun h' tk out c kp hD ko => ⟨.none, rfl, wpAny_pure ?_⟩
    · obtain ⟨j, hj, rfl⟩ := List.mem_map.mp hd
      have := hu j (List.mem_range.mp hj)
      have e1 : A.in1.in1.units = A.units + 2 := rfl
      omega
    · obtain ⟨tt, rfl⟩ := hR
      exact turn j (List.mem_range.mp hj) tt h tk fun b o e => kp b o (ne b o e) (Heap.get?_push_of_some _ (hk1 b o e))
    · exact ⟨_, rfl, h _ out c h' tk hge (fun b o e => kp b o (ne b o e) (Heap.get?_push_of_some _ (hk1 b o e))) hD (PySem.W.keyedOut_each k ko hE)⟩
end
end DL

namespace DL
open PySem PySem.Spec PyProof.Rows L2 LamX
/-- (0 - y[x][0], x) -/
abbrev keyE (x y : Str) (j0 j1 k : Nat) (p0 p1 p2 p3 p4 p5 p6 p7 p8 : Pos) : Expr := .Tuple [.BinOp (.Constant (.int 0) j0 p0) .Sub (.Subscript (.Subscript (.Name y p1) (.Name x p2) p3) (.Constant (.int 0) j1 p4) p5) p6, .Name x p7] k p8
section
variable {prog : Program} {w : World} {A : Around} {E : Value → Shared → Prop} {s : Shared}
theorem key_body {qual x y : Str} {scope : Scope} {L f c' cy l t : Addr} {cl : List (Str × Addr)} {j0 j1 k : Nat} {p0 p1 p2 p3 p4 p5 p6 p7 p8 : Pos} {j : Nat} {tt tn : Tok} {n : Int} {its items : Array Value} {m : Str → Option Value} {Q : Value → Shared → Prop}
    (hk : scope.kind = .function) (hx : scope.names.lookup x = some .local) (hy : scope.names.lookup y = some .free) (hns : s.heap.Ns L m) (hm : m x = some (.int j tt)) (hcl : cl.lookup y = some cy) (hcy : s.heap.IsCell cy (some (.ref l)))
    (hl : s.heap.IsList l its) (hj : its[j]? = some (.ref t)) (hj63 : (j : Int) < 2 ^ 63) (ht : IsTup s.heap t items) (h0 : items[0]? = some (.int n tn))
    (dx : (x == ("__debug__" : Str)) = false) (dy : (y == ("__debug__" : Str)) = false) (cy' : (y == ("__classdict__" : Str)) = false)
    (h : ∀ (D : Addr) (h' : Heap) (tk t1 t2 : Nat), (∀ b o, s.heap.get? b = some o → h'.get? b = some o) → Reads h' (.ref D) (.tuple [.int (0 - n), .int j]) [] → Q (.ref D) { s with heap := h', toks := tk }) :
    wpAny (model prog w) A (eval (keyE x y j0 j1 k p0 p1 p2 p3 p4 p5 p6 p7 p8) (PySem.W.envX qual scope L f (.ref c') cl)) Q E s := by
  have eX : ∀ {s1 : Shared} {Q1 : Value → Shared → Prop} {p : Pos}, s1.heap = s.heap → Q1 (.int j tt) s1 → wpAny (model prog w) A (eval (.Name x p) (PySem.W.envX qual scope L f (.ref c') cl)) Q1 E s1 := fun {s1 Q1 p} e q =>
    wpAny_Name (wpAny_loadName_local (env := PySem.W.envX qual scope L f (.ref c') cl) hk hx (by rw [e]; exact hns) hm q) dx
  refine wpAny_Tuple ?_
  refine Calls.spliced_cons ?_
  refine wpAny_BinOp (wpAny_Constant_int ?_)
  refine Subscript_ (Subscript_ (wpAny_Name (wpAny_loadName_free (env := PySem.W.envX qual scope L f (.ref c') cl) hk hy hcl hcy ?_ cy') dy))
  refine eX rfl ?_
  refine item_listR hl (by omega) hj63 (by simpa using hj) ?_ (by first | rfl | with_unfolding_all rfl)
  refine wpAny_Constant_int ?_
  refine subscriptTail_builtinR (x := .int n tn) (ht.keeps fun _ _ e => e).typeIs slot_tuple_getitem.lookup (getItem_tuple (j := 0) (ht.keeps fun _ _ e => e) (by decide) (by decide) ?_ h0 ⟨rfl, ?_⟩) (by first | rfl | with_unfolding_all rfl)
  · have hz : 0 < items.size := by
      rcases Nat.lt_or_ge 0 items.size with z | z
      · exact z
      · rw [Array.getElem?_eq_none z] at h0; cases h0
    exact seqIndex_of (k := 0) (by omega) (by omega)
  refine sub_int ?_
  refine Calls.spliced_cons (eX rfl (Calls.spliced_nil ⟨by show 2 ≤ sizeLine; decide, ?_⟩))
  refine h _ _ _ 0 0 (fun b o e => Heap.get?_push_of_some _ e) ?_
  exact .tuple (as := []) (Heap.get?_push_size _ rfl) rfl rfl (.cons (as := []) (.int _ _) (.cons (as := []) (.int _ _) .nil))
end

/-! the rule -/
structure LamP (sc scope : Scope) (x : Str) : Prop where
  kind : scope.kind = .function
  co : scope.isCoroutine = false
  gen : scope.isGenerator = false
  cell : ∀ y ∈ scope.names, y.2 ≠ .cell
  par : scope.names.lookup x = some .local
  free : ∀ y ∈ scope.names, y.2 = .free → sc.names.lookup y.1 = some .cell ∨ sc.names.lookup y.1 = some .free
def lamPB (sc scope : Scope) (x : Str) : Bool :=
  decide (scope.kind = .function) && !scope.isCoroutine && !scope.isGenerator && decide (scope.names.lookup x = some .local) && scope.names.all fun y => !decide (y.2 = .cell) && (!decide (y.2 = .free) || decide (sc.names.lookup y.1 = some .cell) || decide (sc.names.lookup y.1 = some .free))
theorem lamP_by {sc scope : Scope} {x : Str} (h : lamPB sc scope x = true) : LamP sc scope x := by
  unfold lamPB at h
  simp only [Bool.and_eq_true, Bool.or_eq_true, Bool.not_eq_true', decide_eq_true_eq, decide_eq_false_iff_not, List.all_eq_true] at h
  obtain ⟨⟨⟨⟨h1, h2⟩, h3⟩, h5⟩, h4⟩ := h
  refine ⟨h1, h2, h3, fun y hy => (h4 y hy).1, h5, fun y hy e => ?_⟩
  rcases (h4 y hy).2 with (z | z) | z
  · exact absurd e z
  · exact .inl z
  · exact .inr z
theorem LamP.has {X : Cx} {scope : Scope} {x : Str} (L : LamP X.env.scope scope x) (ok : X.Ok) : ∀ y ∈ scope.names, y.2 = .free → ∃ c, X.env.cells.lookup y.1 = some c := fun y hy e => by
  rcases L.free y hy e with k | k
  · exact ok.has _ (.inl k)
  · exact ok.has _ (.inr k)
/-- what a captured name holds, as the lambda finds it -/
theorem LamP.look {X : Cx} {scope : Scope} {x y : Str} {pins : List (Addr × Obj)} {σ : L2.St} {H : Hp} {s : Shared} {i : Nat} {v : V} (L : LamP X.env.scope scope x) (I : Inv X pins σ H s) (hN : X.N[i]? = some y) (hv : σ[i]? = some (some v)) (hy : scope.names.lookup y = some .free) (hc : X.env.scope.names.lookup y = some .cell) :
    ∃ c u, (cloFrom X.env.cells scope.names []).lookup y = some c ∧ s.heap.IsCell c (some u) ∧ RelV v u := by
  obtain ⟨m, hn, hl⟩ := I.loc
  obtain ⟨u, r, q⟩ := hl i y v hN hv (.inr (.inl hc))
  have hy' : (y, NameKind.free) ∈ scope.names := PySem.mem_of_lookup hy
  obtain ⟨c2, h2⟩ := mem_lookup (cloFrom_has (cells := X.env.cells) (acc := []) hy')
  rcases q with ⟨k', _⟩ | ⟨_, c3, e', z⟩
  · have k' : X.env.scope.names.lookup y = some .local := k'
    rw [hc] at k'; cases k'
  · refine ⟨c2, u, h2, ?_, r⟩
    rcases cloFrom_mem (PySem.mem_of_lookup h2) with hm | ⟨h3, h4⟩
    · cases hm
    · rw [e'] at h4
      have h4 : c2 = c3 := h4
      rw [h4]; exact z
variable [TabCtx]
def headN : D → Int
  | .tup (.int n :: _) => n
  | _ => 0
def headB : D → Bool
  | .tup (.int _ :: _) => true
  | _ => false
def ordKey (ds : List D) (j : Nat) : PyData := .tuple [.int (0 - headN (ds.getD j .non)), .int j]
def ordL (ds : List D) : List Nat := (List.range ds.length).mergeSort (PySem.W.dataLe false (ordKey ds))
def gSortAt (i : Nat) : Cs → Out RV := fun env => (settle env (.loc i)).bind fun d env1 => match d with
  | .lst ds => if ds.all headB = true ∧ sz ds.length = true then .ok (.tmp (.lst ((ordL ds).map fun j => .int (j : Nat)))) env1 else .stuck
  | _ => .stuck
theorem each_ints {F : Hp} {K : PySem.W.Frag} : ∀ {out : List Value} {js : List Nat}, PySem.W.EachIs (fun v (j : Nat) => ∃ t, v = Value.int j t) out js → Vals (js.map fun j => V.int (j : Nat)) out ∧ DvL K F (js.map fun j => D.int (j : Nat)) (js.map fun j => V.int (j : Nat))
  | _, _, .nil => ⟨.nil, rfl⟩
  | _, _, .cons ⟨t, e⟩ r => by
    obtain ⟨h1, h2⟩ := each_ints (F := F) (K := K) r
    subst e
    exact ⟨.cons ⟨t, rfl⟩ h1, ⟨_, _, rfl, rfl, h2⟩⟩
theorem settle_at {env env1 : Cs} {i : Nat} {d : D} (h : settle env (.loc i) = .ok d env1) : env1[i]? = some (.frz d) := by
  dsimp only [settle] at h
  split at h
  · rename_i d' hi
    cases h
    rw [List.getElem?_set_self (List.getElem?_eq_some_iff.mp hi).1]
  · rename_i d' hi
    cases h
    exact hi
  · cases h
theorem settle_has {K : PySem.W.Frag} {H0 F0 : Hp} {ts : List (Addr × D)} {env env1 : Cs} {F H : Hp} {σ : L2.St} {i : Nat} {d : D} (R : Rs K H0 F0 ts env F σ H) (q : settle env (.loc i) = .ok d env1) : ∃ v, σ[i]? = some (some v) := by
  dsimp only [settle] at q
  split at q
  · rename_i d' hi
    obtain ⟨a, e1, _⟩ := R.cells i _ hi
    exact ⟨_, e1⟩
  · rename_i d' hi
    obtain ⟨v, e1, _⟩ := R.cells i _ hi
    exact ⟨_, e1⟩
  · cases q
theorem headB_eq {d : D} (h : headB d = true) : ∃ n r, d = .tup (.int n :: r) := by
  unfold headB at h
  split at h
  · exact ⟨_, _, rfl⟩
  · cases h
section
variable {X : Cx} {W : WN}
theorem de_sortAt (i : Nat) {x y : Str} {c P : Addr} {kk : Nat} {params : Arguments} {scope : Scope} {j0 j1 k : Nat} {p0 p1 p2 p3 p4 p5 p6 p7 p8 q0 q1 q2 q3 q4 q5 kpos lpos pos : Pos}
    (hc : X.calm = true) (hN : X.N[i]? = some y) (hyc : X.env.scope.names.lookup y = some .cell) (hg : Gl X "sorted") (hm : X.mg "sorted" = none) (hg2 : Gl X "range") (hm2 : X.mg "range" = none) (hg3 : Gl X "len") (hm3 : X.mg "len" = none)
    (TB : TabB X.base X.mg c P) (hcode : X.env.code = .ref c) (hmT : (P, X.env.qual ++ "<lambda>") ∈ TabCtx.T) (hu : ∀ p ∈ TabCtx.T, p.1 = P → p.2 = X.env.qual ++ "<lambda>") (hr : Room kk X.A) (L : LamP X.env.scope scope x) (hy : scope.names.lookup y = some .free) (hdef : defaultsOf params X.env = ([], []))
    (hbind : ∀ (q : Str) (cl : List (Str × Addr)) (pm cv ctv v : Value), bindArgs (PySem.W.kla_fn "<lambda>" q params (keyE x y j0 j1 k p0 p1 p2 p3 p4 p5 p6 p7 p8) scope cl pm cv ctv) ⟨[v], []⟩ = pure [(x, v)])
    (na : starEach [.Call (.Name "range" q1) [.Call (.Name "len" q2) [.Name y q3] [] q4] [] q5] X.env = (false, eval (.Call (.Name "range" q1) [.Call (.Name "len" q2) [.Name y q3] [] q4] [] q5) X.env) :: starEach [] X.env := by rfl)
    (nb : starEach [.Call (.Name "len" q2) [.Name y q3] [] q4] X.env = (false, eval (.Call (.Name "len" q2) [.Name y q3] [] q4) X.env) :: starEach [] X.env := by rfl)
    (nc : starEach [.Name y q3] X.env = (false, eval (.Name y q3) X.env) :: starEach [] X.env := by rfl)
    (dx : (x == ("__debug__" : Str)) = false := by decide) (dy : (y == ("__debug__" : Str)) = false := by decide) (dcy : (y == ("__classdict__" : Str)) = false := by decide) :
    DE X W (.Call (.Name "sorted" q0) [.Call (.Name "range" q1) [.Call (.Name "len" q2) [.Name y q3] [] q4] [] q5] [⟨some "key", .Lambda params (keyE x y j0 j1 k p0 p1 p2 p3 p4 p5 p6 p7 p8) scope lpos, kpos⟩] pos) (gSortAt i) := by
  intro H0 F0 ts env F σ H Q R p
  unfold gSortAt at p
  cases q : settle env (.loc i) with
  | stuck => rw [q] at p; exact p.elim
  | exc e => dsimp only [settle] at q; split at q <;> cases q
  | ok d env1 =>
    rw [q] at p
    dsimp only [Out.bind] at p
    split at p
    · rename_i ds
      split at p
      · rename_i hds
        obtain ⟨v, hv⟩ := settle_has R q
        have e1 := settle_at q
        refine eS.ghb ((Held.settle (r := .loc i) (v := v) R hv q).imp fun H1 ⟨F1, s1, R1, dv⟩ => ?_)
        obtain ⟨l, vs, rfl, hl, hvs⟩ := dv
        refine .mk fun pins s I => ?_
        have hlen : DE X W (.Call (.Name "len" q2) [.Name y q3] [] q4) (g1 sLen (gV i)) := de_b1 call_lenA v_len hg3 hm3 bt_len (de_var i hN (.inr (.inl hyc)) dy dcy) (by decide) (by decide) nc
        have hsz := of_decide_eq_true hds.2
        have elen : g1 sLen (gV i) env1 = .ok (.frz (.int ds.length)) env1 := by
          unfold g1 gV
          rw [e1]
          rfl
        refine wpAny_Call_Name_kw (ld_blt I hg hm bt_sorted ?_ (by decide) (by decide))
        refine PyProof.Rows.callWith_kw ?_ (by rw [na]; rfl) (by rw [na]; rfl) (by rfl) (by rfl)
        rw [na]
        refine Calls.spliced_cons ?_
        refine Call_ (ld_blt I hg2 hm2 boot_range (PyProof.Rows.callWith_type1 (one_arg (R := fun z H2 => ∃ F2, Rs X.K H0 F0 ts env1 F2 σ H2 ∧ z = .int ds.length ∧ Same F1 F2) pe_sem I (hlen H0 F0 ts env1 F1 σ H1 _ R1 (by rw [elen]; exact fun z F2 H2 R2 hd s2 => ⟨F2, R2, hd, s2⟩)) (fun zv s2 z H2 I2 rz ⟨F2, R2, ez, s12⟩ => ?_) nb) nb))
        subst ez
        obtain ⟨tz, rfl⟩ := rz
        refine call_range_1 ?_
        refine Calls.spliced_nil ?_
        have I3 : Inv X pins σ H2 { s2 with heap := s2.heap.push { cls := .type "range", data := .fields #[.int 0 s2.toks, .int (ds.length : Nat) tz, .int 1 (s2.toks + 1)] }, toks := s2.toks + 1 + 1 } := I2.kept fun b u e => Heap.get?_push_of_some _ e
        have fp := I2.fpOk (b := s2.heap.objs.size) (Nat.le_refl _) (I2.hok.fresh (Nat.le_refl _))
        have I4 : Inv X ((s2.heap.objs.size, { cls := .type "range", data := .fields #[.int 0 s2.toks, .int (ds.length : Nat) tz, .int 1 (s2.toks + 1)] }) :: pins) σ H2 { s2 with heap := s2.heap.push { cls := .type "range", data := .fields #[.int 0 s2.toks, .int (ds.length : Nat) tz, .int 1 (s2.toks + 1)] }, toks := s2.toks + 1 + 1 } := by
          refine I3.pins_of fun p hp => ?_
          rcases List.mem_cons.mp hp with z | z
          · subst z
            exact ⟨Heap.get?_push_size _ rfl, fp.1, fp.2.1, fp.2.2.1, fun v z => nomatch z⟩
          · exact I3.pin p (List.mem_append_right _ z)
        show wpAny _ _ (evalAll ((do let v ← eval (.Lambda params (keyE x y j0 j1 k p0 p1 p2 p3 p4 p5 p6 p7 p8) scope lpos) X.env; standAt pos; pure v) :: [])) _ _ _
        refine wpAny_evalAll_cons (wpAny_bind (lam_make2 I4 TB hcode hmT hu R2.tb hdef (L.has I4.ok) fun f c' pm' ctv H3 s3 I5 eN T3 hf hfn hfr hco => wpAny_bind (wpAny_standAt (wpAny_pure (wpAny_evalAll_nil ?_)))))
        show wpAny _ _ (call (.builtin "sorted") [.ref s2.heap.objs.size] [(Str.ofString "key", .ref f)]) _ _ _
        have hrg := (I5.pin (s2.heap.objs.size, { cls := .type "range", data := .fields #[.int 0 s2.toks, .int (ds.length : Nat) tz, .int 1 (s2.toks + 1)] }) (List.mem_append_right _ List.mem_cons_self)).1
        have k23 : Kp H2 H3 := kp_lam eN T3
        have R3 : Rs X.K H0 F0 ts env1 F2 σ H3 := R2.ext ⟨k23, id, .refl _, k23.same R2.fh R2.nf, fun _ h => .inl h⟩
        have hl3 : H3 l = some (.lst vs) := R3.fh _ _ (s12 _ _ hl)
        obtain ⟨its, rits, plits, zits⟩ := I5.list (SqL.of hl3)
        obtain ⟨cy, u, hcl, hcell, ru⟩ := L.look I5 hN hv hy hyc
        obtain rfl : u = Value.ref l := ru
        obtain ⟨⟨oc, cvs, ct, hoc, hdc, hvc⟩, _, _⟩ := I5.hok c' _ hco
        have hlv := hvs.length
        have dpo : ∀ j, (ordKey ds j).depth ≤ 60 := fun j => by unfold ordKey; simp only [PyData.depth, PyData.depthAll]; omega
        refine sorted_key_range (n := ds.length) (ordKey ds) (I5.ok.hd hc) hrg (small_one (by omega) (by omega) (by omega) (by omega)) (by rw [rangeSize_nat]; omega) (by omega) (fun d hd e he => ?_) (.inl fun d hd => ?_) (fun j hj => ?_) (fun j hj tt h tk kp => ?_) fun D out c0 h' tk hD kp hDo each => ?_
        · obtain ⟨a, _, rfl⟩ := List.mem_map.mp hd
          obtain ⟨b, _, rfl⟩ := List.mem_map.mp he
          rfl
        · obtain ⟨a, _, rfl⟩ := List.mem_map.mp hd
          exact ⟨_, _, rfl⟩
        · have := dpo j
          have := hr.un
          omega
        · obtain ⟨d, hd⟩ : ∃ d, ds[j]? = some d := ⟨_, List.getElem?_eq_getElem hj⟩
          obtain ⟨n, r, rfl⟩ := headB_eq (List.all_eq_true.mp hds.1 d (List.mem_of_getElem? hd))
          obtain ⟨vj, hvj, dvj⟩ := hvs.at_ hd
          obtain ⟨t, ws, rfl, ht, hws⟩ := dvj
          obtain ⟨w0, wr, rfl, hw0, _⟩ := hws
          obtain rfl : w0 = V.int n := hw0
          have ht3 : H3 t = some (.tup (V.int n :: wr)) := R3.fh _ _ (s12 _ _ ht)
          obtain ⟨items, ritems, tup, _⟩ := I5.tuple (SqT.of ht3)
          obtain ⟨u0, e0, r0⟩ := ritems.get (i := 0) (x := V.int n) rfl
          obtain ⟨tn, rfl⟩ := r0
          obtain ⟨uj, ej, rj⟩ := rits.get hvj
          obtain rfl : uj = Value.ref t := rj
          have e3 : ordKey ds j = .tuple [.int (0 - n), .int j] := by
            unfold ordKey
            rw [List.getD_eq_getElem?_getD, hd]
            rfl
          rw [e3]
          refine lam_call1 (s := { s3 with heap := h, toks := tk }) (x := x) (c' := c') (by have := hr.dp; show X.A.depth < _; omega) (kp _ _ hf) ⟨c', oc, cvs, ct, rfl, kp _ _ hoc, hdc, hvc⟩ L.co L.gen L.kind L.cell L.par (hbind _ _ _ _ _ _) (I5.nolimit.keeps kp) fun h₁ hns kp1 => ?_
          have kp2 : ∀ b o, s3.heap.get? b = some o → h₁.get? b = some o := fun b o e => kp1 b o (kp b o e)
          refine key_body (s := { s3 with heap := h₁, toks := tk + 1 }) (tt := tt) (n := n) (tn := tn) (t := t) (its := its.toArray) (items := items.toArray) L.kind L.par hy hns (by simp) hcl (hcell.keeps kp2) (by obtain ⟨o, e, r⟩ := plits.isList; exact ⟨o, kp2 _ _ e, r⟩) (by simpa using ej) (by omega) (tup.keeps kp2) (by simpa using e0) dx dy dcy fun D h' tk' _ _ hk' hR => ⟨h', tk', rfl, fun b o e => hk' b o (kp1 b o e), hR⟩
        · obtain ⟨hvals, hdv⟩ := each_ints (F := F2) (K := X.K) each
          have hn3 := I5.hok.gone hD
          have I6 : Inv X pins σ H3 s3 := I5.pins_of fun p hp => I5.pin p (List.mem_append_right _ (List.mem_cons_of_mem _ hp))
          have hln : ((ordL ds).map fun j => V.int (j : Nat)).length ≤ sizeLine := by
            unfold ordL
            rw [List.length_map, List.length_mergeSort, List.length_range]
            exact sz_le hds.2
          refine ⟨.ref D, upd H3 D (.lst ((ordL ds).map fun j => V.int (j : Nat))), I6.laidN (t' := tk) kp hD hn3 (show ObjOk X.prog X.w _ _ _ (.lst _) from ⟨hln, out, c0, hvals, hDo⟩), rfl, ?_⟩
          exact p (.ref D) F2 _ (R3.push (Ext.tmp R3.fh hn3) (.of hn3) (R3.fh.free hn3) ⟨_, upd_same, hdv⟩) ⟨D, rfl, List.mem_cons_self⟩ (s1.trans s12)
      · exact p.elim
    · exact p.elim
end
end DL

namespace DL
open PySem PySem.Spec PyProof.Rows L2
variable [TabCtx]
theorem filterMap_if {β γ : Type} (p : β → Bool) (f : β → γ) : ∀ xs : List β, xs.filterMap (fun x => if p x = true then some (f x) else none) = (xs.filter p).map f
  | [] => rfl
  | x :: xs => by
    rw [List.filterMap_cons, List.filter_cons, filterMap_if p f xs]
    cases p x <;> rfl
/-- a comprehension over encoded items: E x is the state in which item x is looked at -/
theorem lcL_gen {β : Type} (enc : β → D) (p : β → Bool) (f : β → D) (E : β → Cs) (xs : List β) {vs : List Nat} {t : D → Cs → Option Cs} {c : Cs → Out Bool} {g : Cs → Out D} {env : Cs} (hf : freeAt env vs = true)
    (h : ∀ x ∈ xs, t (enc x) (wipeE env vs) = some (E x) ∧ c (E x) = .ok (p x) (E x) ∧ (p x = true → g (E x) = .ok (f x) (E x)) ∧ backE env (E x) vs = env) (hz : xs.length ≤ 16777216) : lcL vs t (noE c) (noE g) (xs.map enc) env [] = .ok (.tmp (.lst ((xs.filter p).map f))) env := by
  rw [← filterMap_if]
  refine (lcL_map enc (fun x => if p x = true then some (f x) else none) hf xs (fun x hx => ?_) [] (by simpa using hz)).trans (by rw [List.nil_append])
  obtain ⟨h1, h2, h3, h4⟩ := h x hx
  refine ⟨E x, E x, h1, ?_, ?_⟩
  · rw [v_noE, h2]
    show Out.ok (p x) (E x) = _
    cases p x <;> rfl
  · cases q : p x with
    | false => exact h4
    | true =>
      refine ⟨E x, ?_, h4⟩
      rw [v_noE, h3 q]
      rfl
/-- .. without a test -/
theorem lcL_allE {β : Type} (enc : β → D) (f : β → D) (E : β → Cs) (xs : List β) {vs : List Nat} {t : D → Cs → Option Cs} {g : Cs → Out D} {env : Cs} (hf : freeAt env vs = true)
    (h : ∀ x ∈ xs, t (enc x) (wipeE env vs) = some (E x) ∧ g (E x) = .ok (f x) (E x) ∧ backE env (E x) vs = env) (hz : xs.length ≤ 16777216) : lcL vs t (noE gYes) (noE g) (xs.map enc) env [] = .ok (.tmp (.lst (xs.map f))) env := by
  have := lcL_gen enc (fun _ => true) f E xs (c := gYes) hf (fun x hx => ⟨(h x hx).1, rfl, fun _ => (h x hx).2.1, (h x hx).2.2⟩) hz
  rw [List.filter_eq_self.mpr (fun _ _ => rfl)] at this
  exact this
/-- .. with one name and a test -/
theorem lcL_if {β : Type} (enc : β → D) (p : β → Bool) (f : β → D) (xs : List β) {i : Nat} {c : Cs → Out Bool} {g : Cs → Out D} {env : Cs} (hf : freeAt env [i] = true) (hb : backE env (env.set i .un) [i] = env)
    (h : ∀ x ∈ xs, c (env.set i (.frz (enc x))) = .ok (p x) (env.set i (.frz (enc x))) ∧ (p x = true → g (env.set i (.frz (enc x))) = .ok (f x) (env.set i (.frz (enc x))))) (hz : xs.length ≤ 16777216) : lcL [i] (tN i) (noE c) (noE g) (xs.map enc) env [] = .ok (.tmp (.lst ((xs.filter p).map f))) env := by
  refine lcL_gen enc p f (fun x => env.set i (.frz (enc x))) xs hf (fun x hx => ⟨?_, (h x hx).1, (h x hx).2, ?_⟩) hz
  · show some ((env.set i .un).set i _) = _
    rw [List.set_set]
  · have hb : (env.set i .un).set i (env.getD i .un) = env := hb
    show (env.set i _).set i (env.getD i .un) = env
    rw [List.set_set] at hb ⊢
    exact hb
/-- a while, and what a def says after it -/
theorem while_nc {c : Cs → Out Bool} {b : Cs → OS} : ∀ (n : Nat) (env e : Cs), whileL c b n env ≠ .ct e
  | 0, _, _ => fun h => by cases h
  | n + 1, env, e => fun h => by
    rw [e_while] at h
    cases q : c env with
    | stuck => rw [q] at h; cases h
    | exc c => rw [q] at h; cases h
    | ok k env1 =>
      rw [q, bs_ok] at h
      split at h
      · cases q2 : b env1 with
        | nx e2 => rw [q2] at h; exact while_nc n _ _ h
        | ct e2 => rw [q2] at h; exact while_nc n _ _ h
        | bk e2 => rw [q2] at h; cases h
        | stuck => rw [q2] at h; cases h
        | exc c => rw [q2] at h; cases h
        | rt r => rw [q2] at h; cases h
      · cases h
theorem whileseq_wp {Q : Post} {c : Cs → Out Bool} {b h : Cs → OS} {M : Cs → Prop} (I : Nat → Cs → Prop) {fuel n : Nat} {env : Cs} (hf : n < fuel) (h0 : I n env)
    (hs : ∀ n env, I n env → (∃ env1, c env = .ok false env1 ∧ M env1) ∨ ∃ env1, c env = .ok true env1 ∧ OS.wp ⟨fun env2 => ∃ m, m < n ∧ I m env2, Q.r⟩ (b env1)) (hk : ∀ env, M env → OS.wp Q (h env)) : OS.wp Q (seqX h (whileL c b fuel env)) :=
  wp_seq (M := M) (fun e => while_nc _ _ e) (while_wp (Q := ⟨M, Q.r⟩) I hs fuel n env hf h0) hk
theorem fin_while {r : Rn} {c : Cs → Out Bool} {b h : Cs → OS} {M : Cs → Prop} (I : Nat → Cs → Prop) {fuel n : Nat} {env : Cs} (hf : n < fuel) (h0 : I n env)
    (hs : ∀ n env, I n env → (∃ env1, c env = .ok false env1 ∧ M env1) ∨ ∃ env1, c env = .ok true env1 ∧ OS.wp ⟨fun env2 => ∃ m, m < n ∧ I m env2, fun r' => r' = r⟩ (b env1)) (hk : ∀ env, M env → finR (h env) = .ret r) : finR (seqX h (whileL c b fuel env)) = .ret r := by
  have := while_wp (Q := ⟨M, fun r' => r' = r⟩) I hs fuel n env hf h0
  cases q : whileL c b fuel env with
  | nx e => rw [q] at this; exact hk e this
  | ct e => exact absurd q (while_nc _ _ e)
  | rt r' => rw [q] at this; exact congrArg OR.ret this
  | bk _ => rw [q] at this; exact this.elim
  | stuck => rw [q] at this; exact this.elim
  | exc _ => rw [q] at this; exact this.elim
end DL

namespace DL
open PySem PySem.Spec PyProof.Rows L2
/-! ### enumerate of a tuple -/
section
theorem en_new (l : Addr) (items : Array Value) (n : Nat) (dct : Option Addr) (sl : Array (Option Value)) :
    Meets (Builtin.«enumerate.__new__» ⟨[.type "enumerate", .ref l], []⟩) (fun _ R s => s.heap.get? l = some { cls := .type "tuple", dict := dct, data := .seq items n, slots := sl } ∧
      R (.ok (.ret (.ref (s.heap.push { cls := .type "tuple_iterator", data := .fields #[.ref l, .int 0 0] }).objs.size)))
        { s with heap := (s.heap.push { cls := .type "tuple_iterator", data := .fields #[.ref l, .int 0 0] }).push { cls := .type "enumerate", data := .fields #[.none, .bool false, .ref s.heap.objs.size, rawInt 0, .none, .none] } }) :=
  .of_wp fun prog w A R s z => by
    obtain ⟨hp, g, d, tk, os⟩ := s; obtain ⟨ho, z⟩ := z
    have hsub := sub_enumerate
    have hT : Heap.IsTuple (Shared.heap ⟨hp, g, d, tk, os⟩) l items := ⟨_, ho, rfl, n, rfl⟩
    wp_walk using AutoSeq1.wpAny_loadPart' ho
    refine wpAny_stack_any fun st => wpAny_pure ?_
    split
    · rename_i c _ _ _ _ _
      cases (c == Value.type "enumerate") <;> (wp_walk using AutoSeq1.wpAny_loadPart' ho, wpAny_pyIter_tuple hT; exact ⟨_, rfl, z⟩)
    · wp_walk using AutoSeq1.wpAny_loadPart' ho, wpAny_pyIter_tuple hT
      exact ⟨_, rfl, z⟩
theorem call_en {prog : Program} {w : World} {A : Around} {E : Value → Shared → Prop} {s : Shared} {l : Addr} {items : Array Value} {Q : Value → Shared → Prop} (hL : s.heap.IsTuple l items)
    (h : ∀ h', IsEnum h' (s.heap.objs.size + 1) s.heap.objs.size 0 .none → h'.IsTupleIter s.heap.objs.size l 0 → h'.objs.size = s.heap.objs.size + 2 → (∀ b o, s.heap.get? b = some o → h'.get? b = some o) → Q (.ref (s.heap.objs.size + 1)) { s with heap := h' }) :
    wpAny (model prog w) A (call (.type "enumerate") [.ref l]) Q E s := by
  obtain ⟨⟨c, dct, dt, sl⟩, hl, hc, n, hd⟩ := hL
  have hc : c = .type "tuple" := hc
  have hd : dt = .seq items n := hd
  subst hc hd
  refine callType_new F.called_enumerate (by decide) (F.typeCall_enumerate_1 _) (F.newCall_enumerate_1 _) (fun obj => F.args_object_init_2 obj _) F.entry_enumerate_new (en_new l items n dct sl) ⟨hl, ?_⟩
  have hz : (s.heap.push { cls := .type "tuple_iterator", data := .fields #[.ref l, .int 0 0] }).objs.size = s.heap.objs.size + 1 := Heap.size_push ..
  show _ ∧ _
  rw [hz]
  have he := Heap.get?_push_size (s.heap.push { cls := .type "tuple_iterator", data := .fields #[.ref l, .int 0 0] }) (o := { cls := .type "enumerate", data := .fields #[.none, .bool false, .ref s.heap.objs.size, rawInt 0, .none, .none] }) rfl
  rw [hz] at he
  exact ⟨⟨_, he, rfl⟩, h _ he ⟨_, Heap.get?_push_of_some _ (Heap.get?_push_size _ rfl), rfl, rfl⟩ (by rw [Heap.size_push, hz]) fun b o x => Heap.get?_push_of_some _ (Heap.get?_push_of_some _ x)⟩
/-- the tuple at a, each item in a new pair -/
def Itet (K : PySem.W.Frag) (a : Addr) : It :=
  ⟨fun i H => ∃ (xs : List V) (x : V), SqT K H a xs ∧ xs[i]? = some x, fun i H v H' => ∃ T x, v = .ref T ∧ H T = none ∧ H' = upd H T (.tup [.int (i : Nat), x]) ∧ ∀ xs, SqT K H a xs → xs[i]? = some x, fun i H => ∃ xs : List V, SqT K H a xs ∧ xs.length = i⟩
theorem turn_en {P : Program} {w : World} {K : PySem.W.Frag} {elts : List Expr} {kk : Nat} {tpos : Pos} (a e it : Addr) (hai : a ≠ it) :
    Turn P w K (.Tuple elts kk tpos) (Itet K a) [e, it] e (fun i h => (∃ old, IsEnum h e it ((i : Nat) : Int) old) ∧ h.IsTupleIter it a i ∧ e ≠ it ∧ a ≠ e) where
  mem := by simp
  obj := fun i h st b hb => by
    obtain ⟨⟨old, he⟩, ⟨o, ho, hc, hd⟩, _⟩ := st
    rcases (by simpa using hb : b = e ∨ b = it) with rfl | rfl
    · exact ⟨_, he, fun v q => nomatch q⟩
    · exact ⟨o, ho, fun v q => by rw [hd] at q; cases q⟩
  keep := fun i h h' st k => by
    obtain ⟨⟨old, he⟩, hi, hne⟩ := st
    exact ⟨⟨old, k e (by simp) _ he⟩, hi.at fun o q => k it (by simp) o q, hne⟩
  item := by
    intro X hP hw hK hc i pins s σ H E I hf st hg
    subst hP hw hK
    obtain ⟨⟨old, he⟩, hit, hne, hae⟩ := st
    obtain ⟨xs, x, hq, hx⟩ := hg
    obtain ⟨its, rv, p, hz⟩ := I.tuple hq
    obtain ⟨u, hu, ru⟩ := rv.get hx
    have lt1 : e < s.heap.objs.size := Heap.lt_size he
    have lt2 : it < s.heap.objs.size := by obtain ⟨_, q, _⟩ := hit; exact Heap.lt_size q
    have hil : i < its.length := by rw [List.getElem?_eq_some_iff] at hu; exact hu.1
    refine wpAny_pyNext_enum_itemC (i := i) (Draws.tuple (A := X.A.in1) (I.ok.hd hc) it a hai its.toArray) he ⟨hit, p⟩ (by simpa using hil) hne (by simp [hne, Ne.symm hae]) fun y h' tk hP ho hst' hT hsz hk => ?_
    have hy : y = u := by
      have hP : its.toArray[i]? = some y := hP
      rw [List.getElem?_toArray, hu] at hP
      exact (Option.some.inj hP).symm
    subst hy
    refine ⟨_, rfl, wpAny_letOwnedTupleGo_enum (s := { s with heap := h', toks := tk + 1 }) ho fun h'' he' sb => ?_⟩
    have hT2 : h''.get? s.heap.objs.size = some { cls := .type "tuple", data := .seq #[.int i tk, y] } := (sb.2 _ (Nat.ne_of_gt lt1)).trans hT
    have nw : ObjOk X.prog X.w (upd H s.heap.objs.size (.tup [.int (i : Nat), x])) h'' s.heap.objs.size (.tup [.int (i : Nat), x]) :=
      ⟨by show 2 ≤ sizeLine; decide, [.int i tk, y], .cons ⟨_, rfl⟩ (.cons ru .nil), ⟨_, hT2, rfl, _, rfl⟩⟩
    have I1 : Inv X pins σ (upd H s.heap.objs.size (.tup [.int (i : Nat), x])) { s with heap := h'', toks := tk + 1 } :=
      I.turnedNew (ch := [e, it]) (fun b ob hb q => (sb.2 b (fun z => hb (by simp [z]))).trans (hk b ob (fun z => hb (by simp [z])) (fun z => hb (by simp [z])) q)) hf (Nat.le_refl _) nw
    refine ⟨.ref s.heap.objs.size, _, I1, rfl, ⟨_, x, rfl, I.hok.fresh (Nat.le_refl _), rfl, fun ys hy => by rw [I.tuple_inj hy hq]; exact hx⟩, ⟨⟨y, ?_⟩, hst'.1.at fun o q => (sb.2 it (Ne.symm hne)).trans q, hne, hae⟩, fun b hb => ?_⟩
    · have e1 : ((i + 1 : Nat) : Int) = (i : Int) + 1 := by omega
      rw [e1]
      exact he'
    · have lt3 : b < s.heap.objs.size := by rcases (by simpa using hb : b = e ∨ b = it) with rfl | rfl <;> assumption
      rw [upd_ne (Nat.ne_of_lt lt3)]
      exact (hf b hb).1
  done := by
    intro X hP hw hK hc i pins s σ H E I hf st hg
    subst hP hw hK
    obtain ⟨⟨old, he⟩, hit, hne, hae⟩ := st
    obtain ⟨xs, hq, hx⟩ := hg
    obtain ⟨its, rv, p, hz⟩ := I.tuple hq
    obtain ⟨f0, f1, f2, f3, f4, f5⟩ := hf it (by simp)
    have hn : its.toArray.size = i := by rw [← hx, rv.length]; rfl
    exact wpAny_pyNext_enum_endD (Draws.tuple (A := X.A.in1) (I.ok.hd hc) it a hai its.toArray) he (by rw [hn]; exact ⟨hit, p⟩) fun h' eb => ⟨rfl, I.turned (t' := s.toks) (fun b o hb q => eb b o hb q) f0 f1 f3 f4 f5⟩
  self := fun A i s Q E st h => let ⟨⟨_, he⟩, _⟩ := st; wpAny_pyIter_enum he h
def iEnT (K : PySem.W.Frag) (ta : TA) : TI := fun σ H R => ta σ H fun vs H1 => ∃ a xs, vs = [.ref a] ∧ SqT K H1 a xs ∧ R (Itet K a) H1
theorem pi_en {X : Cx} {e : Expr} {ta : TA} {p pos tpos : Pos} {elts : List Expr} {kk : Nat} (hg : Gl X "enumerate") (hm : X.mg "enumerate" = none) (ha : PA X [e] ta) (hs : starEach [e] X.env = [(false, eval e X.env)] := by rfl) :
    PI X (.Tuple elts kk tpos) (.Call (.Name "enumerate" p) [e] [] pos) (iEnT X.K ta) := by
  refine ⟨fun pins s σ H R I z => ?_⟩
  refine Call_ (ld_blt I hg hm boot_enumerate (PyProof.Rows.callWith_type1 (thn (ha.run pos pins s σ H _ I z) fun us s1 ⟨vs, H1, I1, r1, q1⟩ => ?_) hs rfl))
  obtain ⟨a, xs, ex, hq, q⟩ := q1
  subst ex
  obtain ⟨its, rv, p', hz⟩ := I1.tuple hq
  cases r1 with
  | cons r rr =>
    cases rr
    cases r
    refine call_en (show s1.heap.IsTuple a its.toArray from p') fun h' he hit hsz hk => wpAny_pyIter_enum he ?_
    have hlt : a < s1.heap.objs.size := by obtain ⟨_, q, _⟩ := p'; exact Heap.lt_size q
    refine ⟨s1.heap.objs.size + 1, [s1.heap.objs.size + 1, s1.heap.objs.size], _, _, H1, rfl, I1.kept (t' := s1.toks) hk, turn_en a (s1.heap.objs.size + 1) s1.heap.objs.size (Nat.ne_of_lt hlt), ⟨⟨.none, he⟩, hit, Nat.succ_ne_self _, Nat.ne_of_lt (Nat.lt_succ_of_lt hlt)⟩, fun b hb => ?_, q⟩
    have hle : s1.heap.objs.size ≤ b := by
      rcases (by simpa using hb : b = s1.heap.objs.size + 1 ∨ b = s1.heap.objs.size) with e | e
      · rw [e]; exact Nat.le_add_right _ _
      · rw [e]; exact Nat.le_refl _
    exact I1.fpOk hle (I1.hok.fresh hle)
end
variable [TabCtx] {K : PySem.W.Frag} {X : Cx} {W : WN}
def giET (g : Cs → Out RV) : Cs → Out (List D) := fun env => (gSet g env).bind fun d env1 => match d with
  | .tup xs => .ok (xs.zipIdx.map fun p => .tup [.int (p.2 : Nat), p.1]) env1
  | _ => .stuck
theorem itet_ok {a : Addr} {F : Hp} {xs : List D} {vs : List V} (h : F a = some (.tup vs)) (t : DvL K F xs vs) : ItOk K (Itet K a) F (xs.zipIdx.map fun p => .tup [.int (p.2 : Nat), p.1]) := by
  intro F' H' s1 s2
  have hq : SqT K H' a vs := SqT.of (s2 _ _ (s1 _ _ h))
  refine ⟨fun i d e => ?_, vs, hq, by simp [t.length]⟩
  rw [List.getElem?_map, List.getElem?_zipIdx] at e
  cases q : xs[i]? with
  | none => rw [q] at e; cases e
  | some d' =>
    rw [q] at e
    obtain ⟨v, ev, dv⟩ := t.at_ q
    have e : D.tup [.int ((0 + i : Nat) : Int), d'] = d := Option.some.inj e
    rw [Nat.zero_add] at e
    subst e
    refine ⟨⟨vs, v, hq, ev⟩, fun x H'' hy => ?_⟩
    obtain ⟨T, x', rfl, hT, rfl, hy⟩ := hy
    have := hy vs hq
    rw [ev] at this
    cases this
    have x := Ext.new (o := .tup [.int (i : Nat), v]) s2 hT
    exact ⟨_, x, T, _, rfl, upd_same, _, _, rfl, rfl, v, [], rfl, (dv.mono s1).mono x.ff, rfl⟩
theorem di_enumT {e : Expr} {elts : List Expr} {kk : Nat} {g : Cs → Out RV} {p0 pos tpos : Pos} (hg : Gl X "enumerate") (hm : X.mg "enumerate" = none) (h : DE X W e g) (hs : starEach [e] X.env = [(false, eval e X.env)] := by rfl) :
    DI X W (.Tuple elts kk tpos) (.Call (.Name "enumerate" p0) [e] [] pos) (giET g) := by
  intro H0 F0 ts env F σ H Q R p
  refine PI.sem (pi_en (ta := tCons (eS X e) tNil) hg hm (pa_cons pe_sem pa_nil hs) hs) (h.df H0 F0 ts env F σ H _ R ?_)
  unfold giET at p
  cases q : gSet g env with
  | stuck => rw [q] at p; exact p.elim
  | exc c => rw [q] at p; exact p
  | ok d env1 =>
    rw [q] at p
    dsimp only [Out.bind] at p
    intro v F1 H1 R1 h1 s1
    cases d with
    | tup xs =>
      obtain ⟨a, vs, rfl, h1, t1⟩ := h1
      exact ⟨a, vs, rfl, SqT.of (R1.fh _ _ h1), p _ F1 H1 R1 s1 (itet_ok h1 t1)⟩
    | _ => exact p.elim
def etK (d : D) (env1 : Cs) : Out (List D) := match d with
  | .tup xs => .ok (xs.zipIdx.map fun p => .tup [.int (p.2 : Nat), p.1]) env1
  | _ => .stuck
theorem e_giET (g : Cs → Out RV) (env : Cs) : giET g env = (gSet g env).bind etK := rfl
theorem etK_t (xs : List D) (env : Cs) : etK (.tup xs) env = .ok (xs.zipIdx.map fun p => .tup [.int (p.2 : Nat), p.1]) env := rfl
end DL

namespace DL
open PySem PySem.Spec PyProof.Rows L2
variable [TabCtx] {K : PySem.W.Frag} {X : Cx} {W : WN}
/-! ### a def that changes the object of its last parameter -/
def PoSp (K : PySem.W.Frag) (W : WN) (H0 F0 : Hp) (i : Nat) (a : Addr) (D : Ends) : OS → Prop
  | .nx env => ∀ F' σ' H', Rs K H0 F0 [] env F' σ' H' → σ'[i]? = some (some (.ref a)) → D.nx σ' H'
  | .ct env => ∀ F' σ' H', Rs K H0 F0 [] env F' σ' H' → σ'[i]? = some (some (.ref a)) → D.ct σ' H'
  | .bk env => ∀ F' σ' H', Rs K H0 F0 [] env F' σ' H' → σ'[i]? = some (some (.ref a)) → D.bk σ' H'
  | .exc c => ∀ H', Kp H0 H' → W c H'
  | _ => False
def DSp (i : Nat) (X : Cx) (W : WN) (st : Stmt) (g : Cs → OS) : Prop := ∀ (a : Addr) (H0 F0 : Hp) (env : Cs) (F : Hp) (σ : L2.St) (H : Hp) (D : Ends),
  Rs X.K H0 F0 [] env F σ H → σ[i]? = some (some (.ref a)) → PoSp X.K W H0 F0 i a D (g env) → sS X st D σ H
def DBp (i : Nat) (X : Cx) (W : WN) (st : List Stmt) (g : Cs → OS) : Prop := ∀ (a : Addr) (H0 F0 : Hp) (env : Cs) (F : Hp) (σ : L2.St) (H : Hp) (D : Ends),
  Rs X.K H0 F0 [] env F σ H → σ[i]? = some (some (.ref a)) → PoSp X.K W H0 F0 i a D (g env) → bS X st D σ H
section
variable {i : Nat}
theorem dbp_cons {st : Stmt} {rest : List Stmt} {g h : Cs → OS} (h1 : DSp i X W st g) (h2 : DBp i X W rest h) : DBp i X W (st :: rest) (sSeq g h) := by
  intro a H0 F0 env F σ H D R e p
  refine PSs.sem (pss_cons ps_sem pss_sem) (h1 a H0 F0 env F σ H _ R e ?_)
  unfold sSeq at p
  cases q : g env with
  | nx env1 => rw [q] at p; exact fun F' σ' H' R' e' => h2 a H0 F0 env1 F' σ' H' D R' e' p
  | stuck => rw [q] at p; exact p.elim
  | exc c => rw [q] at p; exact p
  | rt r => rw [q] at p; exact p.elim
  | bk e => rw [q] at p; exact p
  | ct e => rw [q] at p; exact p
theorem dbp_one {st : Stmt} {g : Cs → OS} (h1 : DSp i X W st g) : DBp i X W [st] g := fun a H0 F0 env F σ H D R e p => PSs.sem (pss_one ps_sem) (h1 a H0 F0 env F σ H D R e p)
theorem dsp_expr {e : Expr} {g : Cs → Out RV} {pos : Pos} (h : DE X W e g) (hs : swapsWith e none pos.line X.env = pure false := by rfl) : DSp i X W (.Expr e pos) (sEx g) := by
  intro a H0 F0 env F σ H D R ea p
  refine PS.sem (ps_expr pe_sem hs) (h H0 F0 [] env F σ H _ R ?_)
  unfold sEx at p
  cases q : g env with
  | stuck => rw [q] at p; exact p.elim
  | exc c => rw [q] at p; exact p
  | ok r env1 => rw [q] at p; exact fun v F' H' R' _ _ => p F' σ H' R'.untmp ea
theorem dsp_set (j : Nat) {x : Str} {e : Expr} {g : Cs → Out RV} {pos pos' : Pos} (hij : j ≠ i) (hN : X.N.Nodup) (hi : X.N[j]? = some x) (hx : Loc X.env.scope x) (h : DE X W e g) (hs : swapsWith e (some (.Name x pos')) pos.line X.env = pure false := by rfl)
    (hf : X.fn x = true ∨ X.env.scope.names.lookup x = some .local := by first | exact .inl rfl | exact .inr rfl | assumption) : DSp i X W (.Assign [.Name x pos'] e pos) (sSet j g) := by
  intro a H0 F0 env F σ H D R ea p
  refine PS.sem (ps_set hN hi hx pe_sem hs hf) (h.nl H0 F0 [] env F σ H _ R ?_)
  unfold sSet at p
  cases q : gNl g env with
  | stuck => rw [q] at p; exact p.elim
  | exc c => rw [q] at p; exact p
  | ok r env1 => rw [q] at p; exact fun v F' H' R' hd _ => p F' _ H' (R'.cell hd j) (by rw [List.getElem?_set_ne hij]; exact ea)
theorem DS0.dsp {st : Stmt} {g : Cs → OS} (h : DS0 X W st g) (hg : ∀ env e, g env ≠ .ct e ∧ g env ≠ .bk e) : DSp i X W st g := by
  intro a H0 F0 env F σ H D R ea p
  refine h H0 F0 env F σ H D R ?_
  cases q : g env with
  | nx env1 => rw [q] at p; exact fun F' H' R' => p F' σ H' R' ea
  | exc c => rw [q] at p; exact p
  | ct e => exact absurd q (hg env e).1
  | stuck => rw [q] at p; exact p
  | rt r => rw [q] at p; exact p
  | bk e => exact absurd q (hg env e).2
theorem sPut_nc {j : Nat} {gk gv : Cs → Out D} (env e : Cs) : sPut j gk gv env ≠ .ct e ∧ sPut j gk gv env ≠ .bk e := by
  constructor <;> intro z <;> unfold sPut at z
  all_goals
    cases q : gv env with
    | stuck => rw [q] at z; cases z
    | exc c => rw [q] at z; cases z
    | ok dv env1 =>
      rw [q] at z
      dsimp only [Out.bs] at z
      split at z
      · cases q2 : gk env1 with
        | stuck => rw [q2] at z; cases z
        | exc c => rw [q2] at z; cases z
        | ok dk env2 =>
          rw [q2] at z
          dsimp only at z
          split at z
          · split at z <;> cases z
          · cases z
      · cases z
theorem dsp_for {tg iter : Expr} {body : List Stmt} {sl : List Nat} {gi : Cs → Out (List D)} {t : D → Cs → Option Cs} {b : Cs → OS} {pos : Pos} (hsl : i ∉ sl) (hp : PassesOwn (model X.prog X.w) X.A X.env X.xe) (hc : X.calm = true) (hi : DI X W tg iter gi) (hg : DG X tg sl t) (hb : DBp i X W body b)
    (hs : ∀ x, foldedSetIterable iter X.env x = pure x := by intro _; rfl) : DSp i X W (.For tg iter body [] pos) (sFor gi t b) := by
  intro a H0 F0 env F σ H D R ea p
  refine PS.sem (ps_for hp hc pi_sem pg_sem pss_sem hs) (hi H0 F0 [] env F σ H _ R ?_)
  unfold sFor at p
  cases q : gi env with
  | stuck => rw [q] at p; exact p.elim
  | exc c => rw [q] at p; exact p
  | ok ds env1 =>
    rw [q] at p
    dsimp only [Out.bs] at p
    intro J F1 H1 R1 s1 it
    refine ⟨fun k m σ H => k ≤ ds.length ∧ m = ds.length - k ∧ σ[i]? = some (some (.ref a)) ∧ ∃ env F, Rs X.K H0 F1 [] env F σ H ∧ PoSp X.K W H0 F0 i a D (forL t b (ds.drop k) env), ⟨_, Nat.zero_le _, rfl, ea, env1, F1, R1.from_, by simpa using p⟩, ?_⟩
    rintro k m σ2 H2 ⟨hi2, rfl, ea2, env2, F2, R2, p2⟩
    obtain ⟨go, stop⟩ := it F2 H2 R2.f0 R2.fh
    by_cases hlt : k < ds.length
    · refine .inr ⟨(go k ds[k] (List.getElem?_eq_getElem hlt)).1, fun σ' H' => σ'[i]? = some (some (.ref a)) ∧ ∃ env F, Rs X.K H0 F1 [] env F σ' H' ∧ PoSp X.K W H0 F0 i a D (forL t b (ds.drop (k + 1)) env), fun σ' H' h => ⟨ds.length - (k + 1), by omega, hlt, rfl, h⟩, fun x H3 hy => ?_⟩
      obtain ⟨F3, x3, dv⟩ := (go k ds[k] (List.getElem?_eq_getElem hlt)).2 x H3 hy
      rw [List.drop_eq_getElem_cons hlt] at p2
      dsimp only [forL] at p2
      cases q2 : t ds[k] env2 with
      | none => rw [q2] at p2; exact p2.elim
      | some env3 =>
        rw [q2] at p2
        dsimp only at p2
        refine hg H0 F1 [] env2 F3 σ2 H3 ds[k] x env3 _ (R2.ext x3) dv q2 fun σ4 R4 o4 => hb a H0 F1 env3 F3 σ4 H3 _ R4 ((o4.2 i hsl).trans ea2) ?_
        cases q3 : b env3 with
        | nx env4 => rw [q3] at p2; exact fun F5 σ5 H5 R5 e5 => ⟨e5, env4, F5, R5, p2⟩
        | ct env4 => rw [q3] at p2; exact fun F5 σ5 H5 R5 e5 => ⟨e5, env4, F5, R5, p2⟩
        | bk env4 => rw [q3] at p2; exact fun F5 σ5 H5 R5 e5 => p2 F5 σ5 H5 (R1.back R5) e5
        | stuck => rw [q3] at p2; exact p2.elim
        | exc c => rw [q3] at p2; exact p2
        | rt r => rw [q3] at p2; exact p2.elim
    · have e : k = ds.length := by omega
      subst e
      rw [List.drop_length] at p2
      exact .inl ⟨stop, p2 F2 σ2 H2 (R1.back R2) ea2⟩
end
/-! ### the call of such a def -/
def era (H : Hp) (a : Addr) : Hp := fun b => if b = a then none else H b
theorem era_ne {H : Hp} {a b : Addr} (h : b ≠ a) : era H a b = H b := if_neg h
theorem era_a {H : Hp} {a : Addr} : era H a a = none := if_pos rfl
/-- what holds of a heap in which only the object at a is another -/
structure Io (K : PySem.W.Frag) (a : Addr) (d : D) (F H F' H' : Hp) : Prop where
  kp : Kp (era H a) H'
  ff : Same F F'
  fh : Same F' H'
  o : OwnAt K F' H' a d
  fa : F' a = none
  nt : NoTb F'
  tb : TabsH H'
  nw : ∀ b, F' b ≠ none → F b ≠ none ∨ NT (era H a) b ∨ ∃ xs, F' b = some (.tup xs)
theorem Io.out {a : Addr} {d : D} {F H F' H' : Hp} (x : Io K a d F H F' H') {b : Addr} (hb : b ≠ a) (h : F b = none) {o : HO} (e : H b = some o) (ne : ∀ xs, o ≠ .tup xs) (nb : ∀ ps, o ≠ .tbl ps) : F' b = none := by
  have e' : era H a b = some o := (era_ne hb).trans e
  cases q : F' b with
  | none => rfl
  | some u =>
    rcases x.nw b (by rw [q]; simp) with z | z | ⟨xs, z⟩
    · exact absurd h z
    · obtain ⟨ps, q⟩ := z _ e'; exact absurd q (nb ps)
    · have q1 := x.kp.keep _ _ e' nb
      have q2 := x.fh _ _ z
      rw [q1] at q2
      exact absurd (Option.some.inj q2) (ne xs)
theorem OwnAt.io {a : Addr} {d d' : D} {F H F' H' : Hp} (x : Io K a d F H F' H') {b : Addr} (hb : b ≠ a) (o : OwnAt K F H b d') (nf : F b = none) : OwnAt K F' H' b d' ∧ F' b = none := by
  obtain ⟨u, hu, nt⟩ := o.some
  obtain ⟨u', hu', nb, _⟩ := o.mut
  rw [hu] at hu'
  cases hu'
  exact ⟨o.mono x.ff fun o q n => x.kp.keep _ _ ((era_ne hb).trans q) n, x.out hb nf hu nt nb⟩
theorem Rs.io {H0 F0 : Hp} {ts : List (Addr × D)} {env : Cs} {F H F' H' : Hp} {σ : L2.St} {i : Nat} {a : Addr} {d d' : D} (R : Rs K H0 F0 ts env F σ H) (hi : env[i]? = some (.own d)) (hs : σ[i]? = some (some (.ref a))) (x : Io K a d' F H F' H') : Rs K H0 F0 ts (env.set i (.own d')) F' σ H' := by
  obtain ⟨a0, e0, oa, nf, n0⟩ := R.cells i _ hi
  rw [hs] at e0
  cases e0
  have hlt : i < env.length := (List.getElem?_eq_some_iff.mp hi).1
  have old : ∀ {j : Nat} {c : Cell}, (env.set i (.own d'))[j]? = some c → (j = i ∧ c = .own d') ∨ (j ≠ i ∧ env[j]? = some c) := fun {j c} e => by
    by_cases q : j = i
    · subst q
      rw [List.getElem?_set_self hlt] at e
      exact .inl ⟨rfl, (Option.some.inj e).symm⟩
    · rw [List.getElem?_set_ne (Ne.symm q)] at e
      exact .inr ⟨q, e⟩
  have was : ∀ {j : Nat} {e : D}, (env.set i (.own d'))[j]? = some (.own e) → ∃ e', env[j]? = some (.own e') := fun {j e} q => by
    rcases old q with ⟨rfl, _⟩ | ⟨_, q⟩
    · exact ⟨d, hi⟩
    · exact ⟨e, q⟩
  refine ⟨x.fh, ⟨fun b o e n => ?_, fun _ => x.tb⟩, x.tb, x.nt, R.f0.trans x.ff, fun b h => ?_, by simpa using R.len, fun j c e => ?_, fun j k d1 d2 b e1 e2 s1 s2 => ?_, fun p hp => ?_, R.tnd, fun j e b e1 s1 => ?_⟩
  · have hb : b ≠ a := fun z => by
      obtain ⟨ps, q⟩ := n0 o (z ▸ e)
      exact n ps q
    exact x.kp.keep b o ((era_ne hb).trans (R.h0.keep b o e n)) n
  · rcases x.nw b h with q | q | q
    · rcases R.nw b q with z | z | ⟨xs, z⟩
      · exact .inl z
      · exact .inr (.inl z)
      · exact .inr (.inr ⟨xs, x.ff _ _ z⟩)
    · have hb : b ≠ a := fun z => h (z ▸ x.fa)
      exact .inr (.inl (R.h0.nt fun o e => q o ((era_ne hb).trans e)))
    · exact .inr (.inr q)
  · rcases old e with ⟨rfl, rfl⟩ | ⟨q, e⟩
    · exact ⟨a, hs, x.o, x.fa, n0⟩
    · have c0 := R.cells j c e
      cases c with
      | un => trivial
      | frz d => obtain ⟨v, e, h⟩ := c0; exact ⟨v, e, h.mono x.ff⟩
      | own e2 =>
        obtain ⟨b, eb, o2, nf2, n2⟩ := c0
        have hb : b ≠ a := fun z => q (R.dj j i _ _ b e hi eb (z ▸ hs))
        obtain ⟨o3, nf3⟩ := o2.io x hb nf2
        exact ⟨b, eb, o3, nf3, n2⟩
  · obtain ⟨e1', w1⟩ := was e1
    obtain ⟨e2', w2⟩ := was e2
    exact R.dj j k _ _ b w1 w2 s1 s2
  · obtain ⟨o2, nf2, n2⟩ := R.tmp p hp
    have hb : p.1 ≠ a := fun z => R.tdj i d a hi hs (by rw [← z]; exact List.mem_map.mpr ⟨p, hp, rfl⟩)
    obtain ⟨o3, nf3⟩ := o2.io x hb nf2
    exact ⟨o3, nf3, n2⟩
  · obtain ⟨e1', w1⟩ := was e1
    exact R.tdj j _ b w1 s1
def spIO (K : PySem.W.Frag) (n : Nat) (fs : List D → D → Option D) : Sp := fun vs H Q E => ∃ F ds us a d d', (Same F H ∧ NoTb F ∧ TabsH H) ∧ vs = us ++ [.ref a] ∧ DvL K F ds us ∧ ds.length = n ∧ OwnAt K F H a d ∧ F a = none ∧ fs ds d = some d' ∧ ∀ F' H', Io K a d' F H F' H' → Q .non H'
def FnIO (P : Program) (w : World) (K : PySem.W.Frag) (mg : Str → Option Value) (base : Heap) (x : Str) (k n : Nat) (fs : List D → D → Option D) : Prop :=
  ∃ f fd ps, FnOk P w K mg base (L2N.CX P w) k f fd ps (spIO K n fs) ∧ mg x = some (.ref f) ∧ PySem.W.keepIn K (.ref f) = true ∧ Binds K fd ps []
/-- arguments of which the last is the object of slot i itself -/
def PoAp (K : PySem.W.Frag) (W : WN) (H0 F0 : Hp) (ts : List (Addr × D)) (F : Hp) (σ : L2.St) (i : Nat) (Q : List V → Hp → Prop) : Out (List D) → Prop
  | .stuck => False
  | .exc c => ∀ H', Kp H0 H' → W c H'
  | .ok ds env => ∀ us v F' H', Rs K H0 F0 ts env F' σ H' → DvL K F' ds us → σ[i]? = some (some v) → Same F F' → Q (us ++ [v]) H'
def DAp (i : Nat) (X : Cx) (W : WN) (es : List Expr) (g : Cs → Out (List D)) : Prop := ∀ (H0 F0 : Hp) (ts : List (Addr × D)) (env : Cs) (F : Hp) (σ : L2.St) (H : Hp) (Q : List V → Hp → Prop),
  Rs X.K H0 F0 ts env F σ H → (∃ v, σ[i]? = some (some v)) → PoAp X.K W H0 F0 ts F σ i Q (g env) → aS X es σ H Q
theorem dap_last (i : Nat) {x : Str} {pos : Pos} (hN : X.N[i]? = some x) (hv : Vis X.env.scope x) (hd : (x == ("__debug__" : Str)) = false := by decide) (hcd : (x == ("__classdict__" : Str)) = false := by decide) (h : starEach [.Name x pos] X.env = (false, eval (.Name x pos) X.env) :: starEach [] X.env := by rfl) :
    DAp i X W [.Name x pos] gaN := by
  intro H0 F0 ts env F σ H Q R ⟨v, ev⟩ p
  exact PA.sem (pa_cons (pe_var hN hv hd hcd) pa_nil h) ⟨v, ev, p [] v F H R rfl ev (.refl _)⟩
theorem dap_cons {i : Nat} {e : Expr} {es : List Expr} {g : Cs → Out D} {gs : Cs → Out (List D)} (he : DF X W e g) (hs : DAp i X W es gs) (h : starEach (e :: es) X.env = (false, eval e X.env) :: starEach es X.env := by rfl) : DAp i X W (e :: es) (gaC g gs) := by
  intro H0 F0 ts env F σ H Q R ev p
  refine PA.sem (pa_cons pe_sem pa_sem h) (he H0 F0 ts env F σ H _ R ?_)
  unfold gaC at p
  cases q : g env with
  | stuck => rw [q] at p; exact p.elim
  | exc c => rw [q] at p; exact p
  | ok d env1 =>
    rw [q] at p
    intro v F1 H1 R1 h1 s1
    dsimp only [Out.bind] at p
    refine hs H0 F0 ts env1 F1 σ H1 _ R1 ev ?_
    cases q2 : gs env1 with
    | stuck => rw [q2] at p; exact p.elim
    | exc c => rw [q2] at p; exact p
    | ok ds env2 => rw [q2] at p; exact fun us w F2 H2 R2 h2 ew s2 => p (v :: us) w F2 H2 R2 ⟨v, us, rfl, h1.mono s2, h2⟩ ew (s1.trans s2)
def gIO (fs : List D → D → Option D) (n i : Nat) (gs : Cs → Out (List D)) : Cs → Out RV := fun env => match env[i]? with
  | some (.own _) => (gs env).bind fun ds env1 => if ds.length = n then match env1[i]? with
      | some (.own d) => match fs ds d with
        | some d' => .ok (.frz .non) (env1.set i (.own d'))
        | none => .stuck
      | _ => .stuck
    else .stuck
  | _ => .stuck
theorem de_callIO (i : Nat) {x : Str} {k n : Nat} {fs : List D → D → Option D} {e : Expr} {es : List Expr} {gs : Cs → Out (List D)} {p0 pos : Pos} (h : FnIO X.prog X.w X.K X.mg X.base x k n fs) (hr : Room k X.A) (hg : Gl X x) {ca : Str → Addr} (hx : Passes (L2N.CX X.prog X.w) X (EW ca W)) (ha : DAp i X W (e :: es) gs)
    (hdb : (x == ("__debug__" : Str)) = false := by decide) (he : starEach (e :: es) X.env = (false, eval e X.env) :: starEach es X.env := by rfl) (hpl : (backTo pos (starEach es X.env)).any (·.1) = false := by rfl) : DE X W (.Call (.Name x p0) (e :: es) [] pos) (gIO fs n i gs) := by
  obtain ⟨f, fd, ps, F, hm, hk, hb⟩ := h
  intro H0 F0 ts env F1 σ H Q R p
  unfold gIO at p
  split at p
  · rename_i d0 e0
    obtain ⟨a0, ea0, _⟩ := R.cells i _ e0
    refine PE.sem (pe_call F hr hg hm hk hb .nil hx pa_sem hdb he hpl) (ha H0 F0 ts env F1 σ H _ R ⟨_, ea0⟩ ?_)
    cases q : gs env with
    | stuck => rw [q] at p; exact p.elim
    | exc c => rw [q] at p; exact p
    | ok ds env1 =>
      rw [q] at p
      dsimp only [Out.bind] at p
      intro us v F2 H2 R2 h2 ev s2
      rw [List.append_nil]
      split at p
      · rename_i hn
        split at p
        · rename_i d e2
          obtain ⟨a, ea, o, nf, n0⟩ := R2.cells i _ e2
          rw [ev] at ea
          cases ea
          split at p
          · rename_i d' q3
            refine ⟨F2, ds, us, a, d, d', ⟨R2.fh, R2.nf, R2.tb⟩, rfl, h2, hn, o, nf, q3, fun F' H' x => ?_⟩
            exact p .non F' H' (R2.io e2 ev x) rfl (s2.trans x.ff)
          · exact p.elim
        · exact p.elim
      · exact p.elim
  · exact p.elim
def runIO (N : Nat) (g : Cs → OS) (ds : List D) (d : D) : Option D := match g (ds.map Cell.frz ++ .own d :: List.replicate (N - ds.length - 1) .un) with
  | .nx env => match env[ds.length]? with
    | some (.own d') => some d'
    | _ => none
  | _ => none
theorem start_io {F H : Hp} {ds : List D} {us : List V} {a : Addr} {d : D} {n : Nat} {N : List Str} (s : Same F H ∧ NoTb F ∧ TabsH H) (h : DvL K F ds us) (hn : N.length = n) (hlt : ds.length < n) (o : OwnAt K F H a d) (nf : F a = none) :
    Rs K (era H a) F [] (ds.map Cell.frz ++ .own d :: List.replicate (n - ds.length - 1) .un) F (start N (us ++ [.ref a])) H := by
  have hl := h.length
  have R := start_rs (N := N) s (show DvL K F (ds ++ [.adr a]) (us ++ [.ref a]) from h.app ⟨_, [], rfl, rfl, rfl⟩) hn
  have e1 : ((ds ++ [D.adr a]).map Cell.frz ++ List.replicate (n - (ds ++ [D.adr a]).length) .un) = ds.map Cell.frz ++ .frz (.adr a) :: List.replicate (n - ds.length - 1) .un := by
    rw [List.map_append, List.length_append, List.append_assoc]
    rfl
  rw [e1] at R
  have at_ : ∀ (c : Cell) (j : Nat), (ds.map Cell.frz ++ c :: List.replicate (n - ds.length - 1) .un)[j]? = if j = ds.length then some c else (ds.map Cell.frz ++ .frz (.adr a) :: List.replicate (n - ds.length - 1) .un)[j]? := fun c j => by
    by_cases q : j = ds.length
    · rw [if_pos q, q, List.getElem?_append_right (by simp)]
      simp
    · rw [if_neg q]
      rcases Nat.lt_or_ge j ds.length with z | z
      · rw [List.getElem?_append_left (by simpa using z), List.getElem?_append_left (by simpa using z)]
      · rw [List.getElem?_append_right (by simpa using z), List.getElem?_append_right (by simpa using z), List.length_map]
        obtain ⟨m, hm⟩ : ∃ m, j - ds.length = m + 1 := ⟨j - ds.length - 1, by omega⟩
        rw [hm, List.getElem?_cons_succ, List.getElem?_cons_succ]
  have noown : ∀ {j : Nat} {e : D}, (ds.map Cell.frz ++ .frz (.adr a) :: List.replicate (n - ds.length - 1) .un)[j]? ≠ some (.own e) := fun {j e} z => by
    have := List.mem_of_getElem? z
    rcases List.mem_append.mp this with m | m
    · obtain ⟨_, _, q⟩ := List.mem_map.mp m; cases q
    · rcases List.mem_cons.mp m with q | q
      · cases q
      · cases (List.mem_replicate.mp q).2
  have hsa : (start N (us ++ [V.ref a]))[ds.length]? = some (some (.ref a)) := by
    obtain ⟨v, ev, hv⟩ := R.cells ds.length (.frz (.adr a)) (by rw [at_ (.frz (.adr a)), if_pos rfl])
    rw [ev, show v = .ref a from hv]
  have only : ∀ {j : Nat} {e : D}, (ds.map Cell.frz ++ .own d :: List.replicate (n - ds.length - 1) .un)[j]? = some (.own e) → j = ds.length := fun {j e} z => by
    by_cases q : j = ds.length
    · exact q
    · rw [at_, if_neg q] at z; exact absurd z noown
  refine ⟨R.fh, ⟨fun b o e n => ?_, fun _ => R.tb⟩, R.tb, R.nf, R.f0, fun b h => .inl h, ?_, fun j c e => ?_, fun j k e1 e2 b z1 z2 _ _ => (only z1).trans (only z2).symm, by simp, by simp, by simp⟩
  · by_cases z : b = a
    · subst z; rw [era_a] at e; cases e
    · rw [era_ne z] at e; exact e
  · have := R.len
    simpa using this
  · by_cases q : j = ds.length
    · rw [at_, if_pos q] at e
      cases e
      rw [q]
      exact ⟨a, hsa, o, nf, .of era_a⟩
    · rw [at_, if_neg q] at e
      have c0 := R.cells j c e
      cases c with
      | un => trivial
      | frz d => exact c0
      | own e2 => exact absurd e noown
theorem fn_io {P : Program} {w : World} {K : PySem.W.Frag} {mg : Str → Option Value} {base : Heap} {x qual : Str} {params : Arguments} {body : List Stmt} {scope : Scope} {f : Addr} {fd : FuncData} {N ps : List Str} {k n : Nat} {ca : Str → Addr} (Fd : FunD K x qual params body scope [] [] f fd) (S : FnScope N ps scope) (hm : mg x = some (.ref f)) (hb : Binds K fd ps []) (hps : ps.length = n + 1) (hlt : n < N.length) (g : Cs → OS)
    (h : ∀ (cdv : Value) (A : Around) (outer : List Env) (s : Shared) (H : Hp) (E : XK), Room k (A.deeper (envOfC qual scope s.heap.objs.size f cdv)) → DBp n (cxOf (L2N.CX P w) P w K mg base N qual scope f cdv A outer s H E) (DL.WE ca E) body g) :
    FnIO P w K mg base x (k + 1) n (runIO N.length g) := by
  refine ⟨f, fd, ps, Fd.ok S (fun vs H Q E h => ?_) (fun cdv A outer s H vs Q E hr hsp => ?_), hm, Fd.kp, hb⟩
  · obtain ⟨F, ds, us, a, d, d', _, rfl, t, hn, _⟩ := h
    rw [List.length_append, t.length, hn, hps]
    rfl
  · obtain ⟨F, ds, us, a, d, d', sF, rfl, t, hn, o, nf, hq, hQ⟩ := hsp
    have R := start_io (N := N) sF t rfl (by omega) o nf
    have ea : (start N (us ++ [V.ref a]))[n]? = some (some (.ref a)) := by
      obtain ⟨b, eb, ob, _⟩ := R.cells n (.own d) (by rw [← hn, List.getElem?_append_right (by simp)]; simp)
      unfold L2.start at eb ⊢
      rw [List.getElem?_append_left (by rw [List.length_map, List.length_append, t.length, hn]; simp), List.getElem?_map, List.getElem?_append_right (by rw [t.length, hn]; exact Nat.le_refl _), t.length, hn]
      simp
    refine ⟨_, pss_sem, h cdv A outer s H E hr a (era H a) F _ F _ H _ R ea ?_⟩
    unfold runIO at hq
    cases q : g (ds.map Cell.frz ++ .own d :: List.replicate (N.length - ds.length - 1) .un) with
    | nx env =>
      rw [q] at hq
      dsimp only at hq
      split at hq
      · rename_i d2 e2
        cases hq
        intro F' σ' H' R' ea'
        obtain ⟨b, eb, ob, nfb, nb⟩ := R'.cells _ _ e2
        rw [hn, ea'] at eb
        cases eb
        exact hQ F' H' ⟨R'.h0, R'.f0, R'.fh, ob, nfb, R'.nf, R'.tb, R'.nw⟩
      · cases hq
    | stuck => rw [q] at hq; cases hq
    | exc c => rw [q] at hq; cases hq
    | rt r => rw [q] at hq; cases hq
    | bk e => rw [q] at hq; cases hq
    | ct e => rw [q] at hq; cases hq
theorem FnIO.zero {P : Program} {w : World} {K : PySem.W.Frag} {mg : Str → Option Value} {base : Heap} {x : Str} {f : Addr} {fd : FuncData} {ps : List Str} (k n : Nat) (hm : mg x = some (.ref f)) (hk : PySem.W.keepIn K (.ref f) = true) (hb : Binds K fd ps []) : FnIO P w K mg base x k n (fun _ _ => none) :=
  ⟨f, fd, ps, ⟨fun _ _ _ _ ⟨_, _, _, _, _, _, _, _, _, _, _, _, z, _⟩ => (by cases z), fun _ _ _ _ _ _ _ _ _ _ _ _ _ ⟨_, _, _, _, _, _, _, _, _, _, _, _, z, _⟩ => (by cases z)⟩, hm, hk, hb⟩
end DL

namespace DL
open PySem PySem.Spec PyProof.Rows L2
/-! ### sorted(d.items()) -/
section
variable [TabCtx] {X : Cx} {pins : List (Addr × Obj)} {σ : L2.St} {H : Hp} {s : Shared}
theorem sorted_fromH {u : Value} {G : Hp → List V → List PyData → Prop} {Q : VK} {E : Value → Shared → Prop}
    (hcol : ∀ R : List Value → Shared → Prop, (∀ s1 us H1 vs ps, Inv X pins σ H1 s1 → Vals vs us → G H1 vs ps → R us s1) → wpAny (model X.prog X.w) X.A.in1 (collect u) R E s)
    (hG : ∀ H1 vs ps, G H1 vs ps → DpAll X.K H1 vs ps ∧ PySem.W.AllAlike ps ∧ PySem.W.Sortable ps ∧ vs.length ≤ sizeLine ∧ (∀ p ∈ ps, X.A.units + 2 + p.depth < cLine) ∧ ∀ p, H1 p = none → Q (.ref p) (upd H1 p (.lst (sortVP vs ps)))) : wpAny (model X.prog X.w) X.A (call (.builtin "sorted") [u]) (EP X pins σ Q) E s := by
  refine Calls.call_function_entry PyProof.Rows.kind_sorted PyProof.Rows.plain_sorted PyProof.Rows.entry_sorted (PyProof.Rows.args_sorted1 _) ?_
  unfold Builtin.«sorted»
  refine wpAny_bind (m := checkCount "sorted" 1 1 _) (wpAny_pure ?_)
  refine wpAny_bind (hcol _ fun s1 us H1 vs ps I1 rv hg => ?_)
  obtain ⟨dp, hal, hk, hL, hu, q⟩ := hG H1 vs ps hg
  have hlu : us.length = vs.length := rv.length.symm
  have hlp := dpAll_length dp
  have hzip : (vs.zip ps).map (·.2) = ps := by rw [← List.unzip_snd, List.unzip_zip (by omega)]
  refine wpAny_bind (wpAny_newList ?_ (by rw [hlu]; exact hL))
  have hoL : (s1.heap.push (seqObj "list" us.toArray 0)).get? s1.heap.objs.size = some (seqObj "list" us.toArray 0) := Heap.get?_push_size _ rfl
  have er := each_reads I1 rv dp
  have er' : PySem.W.EachIs (fun v (b : V × PyData) => ∃ as, Reads (s1.heap.push (seqObj "list" us.toArray 0)) v b.2 as ∧ s1.heap.objs.size ∉ as) us (vs.zip ps) :=
    er.mono fun _ _ ⟨as, r⟩ => ⟨as, PyProof.Rows.Reads.keeps (fun _ _ e => Heap.get?_push_of_some _ e) r, fun m => Nat.lt_irrefl _ (reads_lt r _ m)⟩
  refine wpAny_bind (wpAny_holding (PySem.W.list_sort_data (s := { s1 with heap := s1.heap.push (seqObj "list" us.toArray 0) }) (bs := vs.zip ps) (enc := fun b => b.2) (R := fun u (b : V × PyData) => RelV b.1 u) hoL (each_zip rv hlp) er' (by rw [hzip]; exact hal) (by rw [hzip]; exact hk)
    (by rw [List.length_zip]; omega) (fun b hb => ?_) fun out ho eo => ?_))
  · have : b.2 ∈ ps := by rw [← hzip]; exact List.mem_map.mpr ⟨b, hb, rfl⟩
    have := hu _ this
    show X.A.in1.units + 1 + b.2.depth < cLine
    have e1 : X.A.in1.units = X.A.units + 1 := rfl
    omega
  · obtain ⟨c, hc⟩ := PyProof.Rows.sortedHeap_at (vs := us) (out := List.toArray out) hoL
    have hv := each_vals eo
    have hlen : (sortVP vs ps).length ≤ sizeLine := by
      unfold sortVP
      rw [List.length_map, List.length_mergeSort, List.length_zip]
      omega
    refine wpAny_pure ⟨_, rfl, .ref s1.heap.objs.size, upd H1 s1.heap.objs.size (.lst (sortVP vs ps)), I1.laid (t' := s1.toks) (fun b o e => ?_) (Nat.le_refl _) (show ObjOk X.prog X.w _ _ _ (.lst (sortVP vs ps)) from ⟨hlen, out, c, hv, hc⟩), rfl, q _ (I1.hok.fresh (Nat.le_refl _))⟩
    have hb : b < s1.heap.objs.size := Heap.lt_size e
    rw [PyProof.Rows.sortedHeap_old (Nat.ne_of_lt hb) (by rw [size_push']; exact Nat.lt_succ_of_lt hb)]
    exact Heap.get?_push_of_some _ e
/-- the pairs of a dict are known, each a new tuple -/
theorem items_in {h' : Heap} {tk : Nat} {kvs : List (Key × V)} {vs : List (Key × Value)} {as : List Addr} (I : Inv X pins σ H s) (kv : KV kvs vs) (hk : ∀ b o, s.heap.get? b = some o → h'.get? b = some o) (hl : as.length = vs.length) (hG : PySem.W.KdxG (mixKind X.prog X.w) vs s.heap.objs.size h' as) :
    Inv X pins σ (LiI.putT H as kvs) { s with heap := h', toks := tk } ∧ (∀ t ∈ as, H t = none) ∧ as.Nodup := by
  have lk : kvs.length = vs.length := Paired.length kv
  have dup : as.Nodup := List.Pairwise.imp (fun {a b} (h : a < b) => Nat.ne_of_lt h) hG.rise
  have fr : ∀ t ∈ as, H t = none := fun t ht => I.hok.fresh (Nat.le_of_lt (hG.above t ht))
  have pt := LiI.putT_at as kvs H (by omega) dup
  have sm : ∀ b u, H b = some u → LiI.putT H as kvs b = some u := fun b u e => (LiI.putT_off as kvs H fun z => by rw [fr b z] at e; cases e).trans e
  have lo : ∀ b o, s.heap.get? b = some o → b ∉ as := fun b o e z => absurd (Heap.lt_size e) (Nat.not_lt.mpr (Nat.le_of_lt (hG.above b z)))
  refine ⟨I.call' (ch := []) rfl ⟨fun b o q _ _ _ => hk b o q, fun b o q _ _ _ => ⟨o.slots, hk b o q⟩, fun b o q n _ => (LiI.putT_off as kvs H (lo b o q)).trans n, fun b o q _ => ⟨o, hk b o q⟩, fun b xs q => sm b _ q, fun b o u q => sm b _ q, fun b ps q => ⟨#[], by rw [sm b _ q]; simp⟩⟩ (fun b u q => ?_) I.bare fun b z => by simp at z, fr, dup⟩
  by_cases hb : b ∈ as
  · obtain ⟨j, pk, e1, e2, e3⟩ := LiI.paired_ix pt hb
    rw [e3] at q
    cases q
    obtain ⟨key, k, x, f1, f2, f3⟩ := hG.pairs j b e1
    obtain ⟨qv, g1, g2, g3⟩ := LiI.paired_get kv e2
    rw [f1] at g1
    cases g1
    have rk : RelV (kV pk.1) key := by rw [g2]; exact relV_key (show keyIs k key = true from f2)
    exact ⟨by show 2 ≤ sizeLine; decide, [key, x], .cons rk (.cons g3 .nil), ⟨_, f3, rfl, _, rfl⟩⟩
  · rw [LiI.putT_off as kvs H hb] at q
    exact (I.hok b u q).stay (fun d v _ y => hk d v y) (fun d y => sm d _ y) fun d xs y => sm d _ y
def rSI (K : PySem.W.Frag) : V → Hp → VK → Prop := fun x H Q => ∃ (d : Addr) (kvs : List (Key × V)), x = .ref d ∧ Rd H d (.dK kvs) ∧
  ∀ (as : List Addr), as.length = kvs.length → (∀ t ∈ as, H t = none) → as.Nodup → ∃ ps, DpAll K (LiI.putT H as kvs) (as.map V.ref) ps ∧ canSort ps = true ∧ ∀ p, LiI.putT H as kvs p = none → Q (.ref p) (upd (LiI.putT H as kvs) p (.lst (sortVP (as.map V.ref) ps)))
theorem pe_sortItems {e : Expr} {te : TE} {p apos cpos pos : Pos} (hu : X.A.units + 64 < cLine) (hc : X.calm = true) (he : PE X e te) (hg : Gl X "sorted") (hm : X.mg "sorted" = none) (hv : bootBuiltins "sorted" = some (.builtin "sorted")) (hbase : attributeBase e "items" X.env (eval e X.env) = eval e X.env := by rfl) (hline : (apos.endLine == cpos.line) = true := by rfl)
    (hs : starEach [.Call (.Attribute e "items" apos) [] [] cpos] X.env = (false, eval (.Call (.Attribute e "items" apos) [] [] cpos) X.env) :: starEach [] X.env := by rfl) :
    PE X (.Call (.Name "sorted" p) [.Call (.Attribute e "items" apos) [] [] cpos] [] pos) (fun σ H Q => te σ H fun x H1 => rSI X.K x H1 Q) := by
  refine ⟨fun pins s σ H Q I z => ?_⟩
  refine wpAny_Call_Name_kw (ld_blt I hg hm hv ?_ (by decide) (by decide))
  refine PyProof.Rows.callWith_builtin1 ?_ hs rfl
  rw [hs]
  show wpAny _ _ (spliced ((false, eval (.Call (.Attribute e "items" apos) [] [] cpos) X.env) :: backTo pos (starEach [] X.env))) _ _ s
  refine Calls.spliced_cons ?_
  refine wpAny_Call_method (T := "dict") (id := "dict.items") hbase rfl hline F.plainAttrs_dict F.slot_dict_items F.type_dict_items (thn (he.run pins s σ H _ I z) fun u s1 ⟨x, H1, I1, rx, d, kvs, ex, hd, q⟩ => ?_)
  subst ex
  obtain rfl : u = Value.ref d := rx
  obtain ⟨hz, lo, vs, kv, dd⟩ := dk_rd I1.hok hd
  obtain ⟨ep, hat⟩ := dd.dictAt
  have lk : kvs.length = vs.length := Paired.length kv
  have I2 : Inv X pins σ H1 { s1 with heap := s1.heap.push { cls := .type "dict_items", data := .fields #[.ref d] } } := I1.kept (t' := s1.toks) fun b ob q => Heap.get?_push_of_some _ q
  refine ⟨dd.typeIs, dd.mapOf.noDict, ?_⟩
  show wpAny _ _ (callWith cpos (.builtin "dict.items") [.ref d] [] []) _ X.xe s1
  refine method_meetsIn F.slot_dict_items F.entry_dict_items rfl (PySem.evalArgs_none ⟨rfl, dd.typeIs, F.args_dict_items_1 _, _, meets_dict_items (mixKind X.prog X.w) d lo, ⟨vs, dd⟩, ?_⟩)
  refine Calls.spliced_nil ?_
  refine sorted_fromH (s := { s1 with heap := s1.heap.push { cls := .type "dict_items", data := .fields #[.ref d] } }) (G := fun H2 vs' ps => ∃ as : List Addr, as.length = kvs.length ∧ (∀ t ∈ as, H1 t = none) ∧ as.Nodup ∧ H2 = LiI.putT H1 as kvs ∧ vs' = as.map V.ref ∧ DpAll X.K H2 vs' ps ∧ canSort ps = true ∧ ∀ p, H2 p = none → Q (.ref p) (upd H2 p (.lst (sortVP vs' ps)))) (fun R hR => ?_) fun H2 vs' ps g => ?_
  · refine PySem.W.kdx_collect (A := X.A.in1) (knd := mixKind X.prog X.w) (kvs := vs) (ep := ep) (I1.ok.hd hc) ⟨_, Heap.get?_push_size _ rfl, rfl, rfl⟩ (hat.push _) (by omega) fun h' tk as hk hl hG => ?_
    obtain ⟨J, fr, dup⟩ := items_in (tk := tk) I2 kv hk hl hG
    obtain ⟨ps, dp, cs, q2⟩ := q as (by omega) fr dup
    exact hR _ _ _ _ ps J (LiI.vals_refs as) ⟨as, by omega, fr, dup, rfl, rfl, dp, cs, q2⟩
  · obtain ⟨as, hl, fr, dup, rfl, rfl, dp, cs, q2⟩ := g
    obtain ⟨h1, h2, h3⟩ := canSort_ok cs
    exact ⟨dp, h1, h2, by rw [List.length_map]; omega, fun p hp => by have := h3 p hp; omega, q2⟩
end
variable [TabCtx] {K : PySem.W.Frag} {X : Cx} {W : WN}
def sSI : D → Option Rn
  | .dK es => srtItems (es.map fun e => .tup [kD e.1, e.2])
  | _ => none
theorem putT_ext {F H : Hp} : ∀ (as : List Addr) {es : List (Key × D)} {kvs : List (Key × V)}, Same F H → DvK K F es kvs → as.length = kvs.length → (∀ t ∈ as, H t = none) → as.Nodup →
    Ext F H (LiI.putT F as kvs) (LiI.putT H as kvs) ∧ DvL K (LiI.putT F as kvs) (es.map fun e => .tup [kD e.1, e.2]) (as.map V.ref)
  | [], es, kvs, s, t, hl, _, _ => by
    have : kvs = [] := List.eq_nil_of_length_eq_zero hl.symm
    subst this
    cases es with
    | nil => exact ⟨Ext.refl s, rfl⟩
    | cons e es => obtain ⟨k, d⟩ := e; obtain ⟨v, r, e, _⟩ := t; cases e
  | a :: as, es, kvs, s, t, hl, fr, dup => by
    cases es with
    | nil => cases (show kvs = [] from t); cases hl
    | cons e es =>
      obtain ⟨k, d⟩ := e
      obtain ⟨v, r, e, h, t⟩ := t
      subst e
      rw [List.nodup_cons] at dup
      have x1 := Ext.new (o := .tup [kV k, v]) s (fr a List.mem_cons_self)
      have ih := putT_ext as (es := es) (kvs := r) x1.fh (t.mono x1.ff) (by simpa using hl) (fun b hb => (upd_ne (show b ≠ a from fun z => dup.1 (z ▸ hb))).trans (fr b (List.mem_cons_of_mem _ hb))) dup.2
      refine ⟨x1.trans ih.1, .ref a, _, rfl, ?_, ih.2⟩
      exact Dv.mono ih.1.ff ⟨a, [kV k, v], rfl, upd_same, _, _, rfl, dv_kD k, _, _, rfl, h.mono x1.ff, rfl⟩
theorem v_SI : V1 K (rSI K) sSI := by
  intro F H d v Q s hd p
  cases d with
  | dK es =>
    obtain ⟨a, kvs, rfl, h1, t1⟩ := hd.dK s
    refine ⟨a, kvs, rfl, h1, fun as hl fr dup => ?_⟩
    obtain ⟨x, dv⟩ := putT_ext as s t1 hl fr dup
    dsimp only [sSI] at p
    unfold srtItems at p
    cases q : pyL (es.map fun e => .tup [kD e.1, e.2]) with
    | none => rw [q] at p; exact p.elim
    | some ps =>
      rw [q] at p
      dsimp only at p
      split at p
      · rename_i cs
        refine ⟨ps, dv.dp x.fh q, cs, fun b hb => ?_⟩
        have e := (pyL_map q).1
        subst e
        exact p b _ _ (x.trans (Ext.tmp x.fh hb)) (x.hh.nt (.of hb)) (x.fh.free hb) ⟨_, upd_same, dv.sort⟩
      · exact p.elim
  | _ => exact p.elim
theorem de_sortItems {a : Expr} {ga : Cs → Out RV} {p apos cpos pos : Pos} (hu : X.A.units + 64 < cLine) (hc : X.calm = true) (hg : Gl X "sorted") (hm : X.mg "sorted" = none) (ha : DE X W a ga) (hbase : attributeBase a "items" X.env (eval a X.env) = eval a X.env := by rfl) (hline : (apos.endLine == cpos.line) = true := by rfl)
    (hs : starEach [.Call (.Attribute a "items" apos) [] [] cpos] X.env = (false, eval (.Call (.Attribute a "items" apos) [] [] cpos) X.env) :: starEach [] X.env := by rfl) :
    DE X W (.Call (.Name "sorted" p) [.Call (.Attribute a "items" apos) [] [] cpos] [] pos) (g1 sSI ga) :=
  fun H0 F0 ts env F σ H Q R p => PE.sem (pe_sortItems hu hc pe_sem hg hm bt_sorted hbase hline hs) (one_ok v_SI ha R p)
end DL

namespace DL
open PySem PySem.Spec PyProof.Rows L2 LamX
/-! ### max(e, key=lambda x: len(x)) -/
section
variable {prog : Program} {w : World} {A : Around} {E : Value → Shared → Prop} {s : Shared}
theorem len_body {qual x : Str} {scope : Scope} {L f c' t : Addr} {cl : List (Str × Addr)} {p0 p1 pos : Pos} {items : Array Value} {m mg mb : Str → Option Value} {Q : Value → Shared → Prop}
    (hk : scope.kind = .function) (hx : scope.names.lookup x = some .local) (hln : (PySem.W.envX qual scope L f (.ref c') cl).kindOf "len" = some .globalImplicit) (hns : s.heap.Ns L m) (hm : m x = some (.ref t)) (hg : s.heap.Ns mainGlobals mg) (hmg : mg "len" = none) (hb : s.heap.Ns builtinsNs mb) (hmb : mb "len" = some (.builtin "len"))
    (ht : IsTup s.heap t items) (hz : (items.size : Int) < 2 ^ 63) (dx : (x == ("__debug__" : Str)) = false) (h : Q (.int items.size (s.toks + 1)) { s with toks := s.toks + 2 }) :
    wpAny (model prog w) A (eval (.Call (.Name "len" p0) [.Name x p1] [] pos) (PySem.W.envX qual scope L f (.ref c') cl)) Q E s := by
  refine wpAny_Call_Name_kw (Calls.Name_function_global (env := PySem.W.envX qual scope L f (.ref c') cl) hk hln (Calls.loadGlobal_builtin hg hmg hb hmb ?_))
  refine PyProof.Rows.callWith_builtin1 ?_ rfl rfl
  refine Calls.spliced_cons (wpAny_Name (wpAny_loadName_local (env := PySem.W.envX qual scope L f (.ref c') cl) hk hx hns hm (Calls.spliced_nil ?_)) dx)
  exact len_tuple ht hz h
end
variable [TabCtx]
def lenD : D → Nat
  | .tup xs => xs.length
  | _ => 0
def tupB : D → Bool
  | .tup _ => true
  | _ => false
def bestL (ds : List D) : Nat := argBest (fun i j => decide ((lenD (ds.getD i .non) : Int) > lenD (ds.getD j .non))) (ds.length - 1)
def mlK (d : D) (env : Cs) : Out RV := match d with
  | .lst ds => if ds.all tupB = true ∧ sz ds.length = true ∧ ds.isEmpty = false then .ok (.frz (ds.getD (bestL ds) .non)) env else .stuck
  | _ => .stuck
def gMaxLen (g : Cs → Out RV) : Cs → Out RV := fun env => (gSet g env).bind mlK
theorem tupB_eq {d : D} (h : tupB d = true) : ∃ r, d = .tup r := by
  unfold tupB at h
  split at h
  · exact ⟨_, rfl⟩
  · cases h
theorem argBest_le (bt : Nat → Nat → Bool) : ∀ n, argBest bt n ≤ n
  | 0 => Nat.le_refl _
  | n + 1 => by
    unfold argBest
    have := argBest_le bt n
    split <;> omega
section
variable {X : Cx} {W : WN}
theorem de_maxLen {x : Str} {c P : Addr} {kk : Nat} {params : Arguments} {scope : Scope} {e : Expr} {g : Cs → Out RV} {p0 p1 lp q0 kpos lpos pos : Pos}
    (hc : X.calm = true) (hg : Gl X "max") (hm : X.mg "max" = none) (hml : X.mg "len" = none) (TB : TabB X.base X.mg c P) (hcode : X.env.code = .ref c) (hmT : (P, X.env.qual ++ "<lambda>") ∈ TabCtx.T) (hu : ∀ p ∈ TabCtx.T, p.1 = P → p.2 = X.env.qual ++ "<lambda>") (hr : Room kk X.A) (L : LamP X.env.scope scope x)
    (hln : ∀ (q : Str) (L' f c' : Addr) (cl : List (Str × Addr)), (PySem.W.envX q scope L' f (.ref c') cl).kindOf "len" = some .globalImplicit) (hdef : defaultsOf params X.env = ([], []))
    (hbind : ∀ (q : Str) (cl : List (Str × Addr)) (pm cv ctv v : Value), bindArgs (PySem.W.kla_fn "<lambda>" q params (.Call (.Name "len" p0) [.Name x p1] [] lp) scope cl pm cv ctv) ⟨[v], []⟩ = pure [(x, v)]) (he : DE X W e g)
    (na : starEach [e] X.env = (false, eval e X.env) :: starEach [] X.env := by rfl) (dx : (x == ("__debug__" : Str)) = false := by decide) :
    DE X W (.Call (.Name "max" q0) [e] [⟨some "key", .Lambda params (.Call (.Name "len" p0) [.Name x p1] [] lp) scope lpos, kpos⟩] pos) (gMaxLen g) := by
  intro H0 F0 ts env F σ H Q R p
  unfold gMaxLen at p
  refine .mk fun pins s I => ?_
  refine wpAny_Call_Name_kw (ld_blt I hg hm bt_max ?_ (by decide) (by decide))
  refine PyProof.Rows.callWith_kw ?_ (by rw [na]; rfl) (by rw [na]; rfl) (by rfl) (by rfl)
  rw [na]
  refine Calls.spliced_cons ?_
  have hE : eS X e σ H fun v H1 => ∃ F1 ds env1, Rs X.K H0 F0 ts env1 F1 σ H1 ∧ Dv X.K F1 (.lst ds) v ∧ Same F F1 ∧ (ds.all tupB = true ∧ sz ds.length = true ∧ ds.isEmpty = false) ∧ PoE X.K W H0 F0 ts F σ Q (.ok (.frz (ds.getD (bestL ds) .non)) env1) := by
    refine he.df H0 F0 ts env F σ H _ R ?_
    cases q : gSet g env with
    | stuck => rw [q] at p; exact p.elim
    | exc c => rw [q] at p; exact p
    | ok d env1 =>
      rw [q] at p
      intro v F1 H1 R1 dv s1
      cases d with
      | lst ds =>
        have p : PoE X.K W H0 F0 ts F σ Q (if ds.all tupB = true ∧ sz ds.length = true ∧ ds.isEmpty = false then .ok (.frz (ds.getD (bestL ds) .non)) env1 else .stuck) := p
        split at p
        · rename_i hz
          exact ⟨F1, ds, env1, R1, dv, s1, hz, p⟩
        · exact p.elim
      | _ => exact p.elim
  refine thn (hE.out pins s I) fun u s1 ⟨v, H1, I1, rv, F1, ds, env1, R1, dv, s01, ⟨hz1, hz2, hz3⟩, pq⟩ => ?_
  obtain ⟨l, vs, rfl, hl, hvs⟩ := dv
  obtain rfl : u = Value.ref l := rv
  refine Calls.spliced_nil ?_
  show wpAny _ _ (evalAll ((do let v ← eval (.Lambda params (.Call (.Name "len" p0) [.Name x p1] [] lp) scope lpos) X.env; standAt pos; pure v) :: [])) _ _ _
  refine wpAny_evalAll_cons (wpAny_bind (lam_make2 I1 TB hcode hmT hu R1.tb hdef (L.has I1.ok) fun f c' pm' ctv H3 s3 I5 eN T3 hf hfn hfr hco => wpAny_bind (wpAny_standAt (wpAny_pure (wpAny_evalAll_nil ?_)))))
  show wpAny _ _ (call (.builtin "max") [.ref l] [(Str.ofString "key", .ref f)]) _ _ _
  have k13 : Kp H1 H3 := kp_lam eN T3
  have R3 : Rs X.K H0 F0 ts env1 F1 σ H3 := R1.ext ⟨k13, id, .refl _, k13.same R1.fh R1.nf, fun _ h => .inl h⟩
  obtain ⟨its, rits, plits, zits⟩ := I5.list (SqL.of (R3.fh _ _ hl))
  obtain ⟨⟨oc, cvs, ct, hoc, hdc, hvc⟩, _, _⟩ := I5.hok c' _ hco
  have hlv : vs.length = ds.length := hvs.length
  have hli : its.length = vs.length := rits.length.symm
  have hpos : 0 < ds.length := by
    cases ds with
    | nil => cases hz3
    | cons _ _ => simp
  have hlt : l < s3.heap.objs.size := by obtain ⟨_, q, _⟩ := plits.isList; exact Heap.lt_size q
  have tup : ∀ i, i < ds.length → ∃ (t : Addr) (r : List D) (ws : List V) (items : List Value), ds[i]? = some (.tup r) ∧ its[i]? = some (.ref t) ∧ Dv X.K F1 (.tup r) (.ref t) ∧ r.length = items.length ∧ s3.heap.IsTuple t items.toArray ∧ items.length ≤ sizeLine := fun i hi => by
    obtain ⟨d, hd⟩ : ∃ d, ds[i]? = some d := ⟨_, List.getElem?_eq_getElem hi⟩
    obtain ⟨r, rfl⟩ := tupB_eq (List.all_eq_true.mp hz1 d (List.mem_of_getElem? hd))
    obtain ⟨vj, hvj, dvj⟩ := hvs.at_ hd
    have dv0 := dvj
    obtain ⟨t, ws, rfl, ht, hws⟩ := dvj
    obtain ⟨uj, ej, rj⟩ := rits.get hvj
    obtain rfl : uj = Value.ref t := rj
    obtain ⟨items, ritems, tp, zt⟩ := I5.tuple (SqT.of (R3.fh _ _ ht))
    exact ⟨t, r, ws, items, hd, ej, dv0, by rw [← hws.length, ritems.length], tp, by rw [← ritems.length]; exact zt⟩
  have lenAt : ∀ i r, ds[i]? = some (.tup r) → lenD (ds.getD i .non) = r.length := fun i r e => by rw [List.getD_eq_getElem?_getD, e]; rfl
  refine call_max_walkK (wpAny_pyIter_list plits.isList ?_)
  have hne : l ≠ s3.heap.objs.size := Nat.ne_of_lt hlt
  refine ⟨s3.heap.objs.size, [s3.heap.objs.size, l], [s3.heap.objs.size], _, its.toArray.size, _, _, (fun s' => s'.gens = s3.gens ∧ s'.drawn = s3.drawn ∧ s'.os = s3.os ∧ ∀ b o, s3.heap.get? b = some o → s'.heap.get? b = some o), (fun i k _ => ∃ t, k = .int (lenD (ds.getD i .non)) t), (fun i j => decide ((lenD (ds.getD i .non) : Int) > lenD (ds.getD j .non))), rfl, (Walks.list (A := X.A.in1) (I5.ok.hd hc) s3.heap.objs.size l hne its.toArray).toS, ⟨⟨_, Heap.get?_push_size _ rfl, rfl, rfl⟩, plits.isList.push _⟩, fun b hb => ?_, by simpa [hli, hlv] using hpos, ?_, ⟨rfl, rfl, rfl, fun b o e => Heap.get?_push_of_some _ e⟩, fun v s' hP hJ => ?_⟩
  · rw [Heap.size_push]
    rcases (by simpa using hb : b = s3.heap.objs.size ∨ b = l) with z | z
    · rw [z]; exact Nat.lt_succ_self _
    · rw [z]; exact Nat.lt_succ_of_lt hlt
  · refine ⟨fun sa sb hJ mv => ?_, fun i k sa sb hV _ => hV, fun i v sa o Q' E' hi hP hJ hst hS hQ => ?_, fun i j ki kj sa Q' E' _ hi hj hq => ?_⟩
    · obtain ⟨j1, j2, j3, j4⟩ := hJ
      refine ⟨mv.gens.trans j1, mv.drawn.trans j2, mv.os.trans j3, fun b o e => mv.heap b o ?_ (j4 b o e)⟩
      have hb := Heap.lt_size e
      intro z
      rcases (by simpa [Heap.size_push] using z : b = s3.heap.objs.size + 1 ∨ b = s3.heap.objs.size) with z | z
      · rw [z] at hb; exact absurd hb (Nat.not_lt.mpr (Nat.le_succ _))
      · rw [z] at hb; exact absurd hb (Nat.lt_irrefl _)
    · obtain ⟨j1, j2, j3, j4⟩ := hJ
      have hi' : i < ds.length := by simpa [hli, hlv] using hi
      obtain ⟨t, r, ws, items, e1, e2, dv0, e3, tp, e4⟩ := tup i hi'
      have hv : v = .ref t := by
        have hP : its.toArray[i]? = some v := hP
        rw [List.getElem?_toArray, e2] at hP
        exact (Option.some.inj hP).symm
      subst hv
      refine lam_call1 (x := x) (c' := c') (by have := hr.dp; show X.A.depth < _; omega) (j4 _ _ hf) ⟨c', oc, cvs, ct, rfl, j4 _ _ hoc, hdc, hvc⟩ L.co L.gen L.kind L.cell L.par (hbind _ _ _ _ _ _) (I5.nolimit.keeps j4) fun h₁ hns kp1 => ?_
      have kp2 : ∀ b o, s3.heap.get? b = some o → h₁.get? b = some o := fun b o e => kp1 b o (j4 b o e)
      obtain ⟨mb, b1, b2⟩ := I5.mod.blt
      refine len_body (s := { sa with heap := h₁, toks := sa.toks + 1 }) (t := t) (items := items.toArray) L.kind L.par (hln _ _ _ _ _) hns (by simp) ((I5.mod.glob.keeps I5.bk).keeps kp2) hml ((b1.keeps I5.bk).keeps kp2) ((b2 "len" (by decide)).trans bt_len) (by obtain ⟨ob, e, q⟩ := tp; exact ⟨ob, kp2 _ _ e, q⟩) (by have := line63; simp only [List.size_toArray]; omega) dx ?_
      refine hQ _ _ ⟨j1, j2, j3, kp2⟩ ⟨hst.1.at fun o e => kp1 _ _ e, hst.2.at fun o e => kp1 _ _ e⟩ (kp1 _ _ hS) ⟨sa.toks + 1 + 1, ?_⟩ fun _ _ h => h
      rw [lenAt i r e1, e3, List.size_toArray]
    · exact CmpOf.ints_gt (P := fun i k => ∃ t, k = Value.int (lenD (ds.getD i .non)) t) (fun i => (lenD (ds.getD i .non) : Int)) (fun _ _ h => h) i j ki kj sa Q' E' hi hj hq
  · obtain ⟨j1, j2, j3, j4⟩ := hJ
    have hb : bestL ds < ds.length := by
      have := argBest_le (fun i j => decide ((lenD (ds.getD i .non) : Int) > lenD (ds.getD j .non))) (ds.length - 1)
      unfold bestL
      omega
    obtain ⟨t, r, ws, items, e1, e2, dv0, e3, tp, e4⟩ := tup _ hb
    have hsz : its.toArray.size = ds.length := by simp [hli, hlv]
    have hv : v = .ref t := by
      have hP : its.toArray[argBest (fun i j => decide ((lenD (ds.getD i .non) : Int) > lenD (ds.getD j .non))) (its.toArray.size - 1)]? = some v := hP
      rw [hsz, List.getElem?_toArray] at hP
      exact (Option.some.inj (e2.symm.trans hP)).symm
    subst hv
    have I6 : Inv X pins σ H3 s' := by
      have := I5.kept (t' := s'.toks) (h' := s'.heap) j4
      obtain ⟨h', g', d', t', o'⟩ := s'
      have j1 : g' = s3.gens := j1
      have j2 : d' = s3.drawn := j2
      have j3 : o' = s3.os := j3
      subst j1 j2 j3
      exact this
    refine ⟨.ref t, H3, I6, rfl, ?_⟩
    have e5 : ds.getD (bestL ds) .non = .tup r := by rw [List.getD_eq_getElem?_getD, e1]; rfl
    rw [e5] at pq
    exact pq (.ref t) F1 H3 R3 dv0 s01
end
end DL

namespace DL
open PySem PySem.Spec PyProof.Rows L2
/-! ### list(zip(a, b)) -/
section
/-- a zip after i turns; what it told is held -/
structure ZSt (h : Heap) (z TI TO i1 i2 l1 l2 S : Addr) (xs ys : Array Value) (i : Nat) : Prop where
  zz : (∃ a b, IsZip h z TI TO .none ∧ IsPair h TO a b) ∨ ∃ T f oT, IsZipHeld h z TI TO T f ∧ h.get? T = some oT ∧ S < T
  ti : IsPair h TI (.ref i1) (.ref i2)
  h1 : h.IsListIter i1 l1 i
  h2 : h.IsListIter i2 l2 i
  l1 : h.IsList l1 xs
  l2 : h.IsList l2 ys
structure ZLow (z TI TO i1 i2 l1 l2 S : Addr) : Prop where
  ap : ZipApart z TI TO i1 i2 l1 l2
  lz : z < S
  lTI : TI < S
  lTO : TO < S
  li1 : i1 < S
  li2 : i2 < S
  ll1 : l1 < S
  ll2 : l2 < S
variable {prog : Program} {w : World} {A : Around} {E : Value → Shared → Prop} {s : Shared} {z TI TO i1 i2 l1 l2 S : Addr} {xs ys : Array Value}
theorem ZSt.keep {h h' : Heap} {i : Nat} (L : ZLow z TI TO i1 i2 l1 l2 S) (st : ZSt h z TI TO i1 i2 l1 l2 S xs ys i) (k : ∀ b o, b ≠ S → h.get? b = some o → h'.get? b = some o) : ZSt h' z TI TO i1 i2 l1 l2 S xs ys i where
  zz := by
    rcases st.zz with ⟨a, b, e1, e2⟩ | ⟨T, f, oT, e1, e2, e3⟩
    · exact .inl ⟨a, b, k _ _ (Nat.ne_of_lt L.lz) e1, k _ _ (Nat.ne_of_lt L.lTO) e2⟩
    · exact .inr ⟨T, f, oT, k _ _ (Nat.ne_of_lt L.lz) e1, k _ _ (Nat.ne_of_gt e3) e2, e3⟩
  ti := k _ _ (Nat.ne_of_lt L.lTI) st.ti
  h1 := st.h1.at fun o e => k _ _ (Nat.ne_of_lt L.li1) e
  h2 := st.h2.at fun o e => k _ _ (Nat.ne_of_lt L.li2) e
  l1 := st.l1.at fun o e => k _ _ (Nat.ne_of_lt L.ll1) e
  l2 := st.l2.at fun o e => k _ _ (Nat.ne_of_lt L.ll2) e
theorem zl_item {i : Nat} {x y : Value} {Q : Option Value → Shared → Prop} (L : ZLow z TI TO i1 i2 l1 l2 S) (st : ZSt s.heap z TI TO i1 i2 l1 l2 S xs ys i) (hS : S < s.heap.objs.size) (hx : xs[i]? = some x) (hy : ys[i]? = some y)
    (hQ : ∀ h', ZSt h' z TI TO i1 i2 l1 l2 S xs ys (i + 1) → IsPair h' s.heap.objs.size x y → (∀ c o, S ≤ c → s.heap.get? c = some o → h'.get? c = some o) → (∀ c o, c ≠ z → c ≠ TO → c ≠ i1 → c ≠ i2 → s.heap.get? c = some o → h'.get? c = some o) → Q (some (.ref s.heap.objs.size)) { s with heap := h' }) :
    wpAny (model prog w) A (pyNext (.ref z)) Q E s := by
  have D := L.ap
  rcases st.zz with ⟨a, b, e1, e2⟩ | ⟨T, f, oT, e1, e2, e3⟩
  · refine wpAny_pyNext_zip_item D e1 st.ti e2 st.h1 st.h2 st.l1 st.l2 hx hy fun h' a1 a2 a3 a4 a5 a6 a7 => hQ h' ⟨.inr ⟨s.heap.objs.size, false, _, a1, a5, hS⟩, a7 _ _ D.TIz D.TITO D.TIi1 D.TIi2 st.ti, a3, a4, st.l1.at fun o e => a7 _ _ D.l1z D.l1TO D.l1i1 D.l1i2 e, st.l2.at fun o e => a7 _ _ D.l2z D.l2TO D.l2i1 D.l2i2 e⟩ a5 (fun c o hc e => ?_) fun c o c1 c2 c3 c4 e => a7 c o c1 c2 c3 c4 e
    exact a7 c o (Nat.ne_of_gt (Nat.lt_of_lt_of_le L.lz hc)) (Nat.ne_of_gt (Nat.lt_of_lt_of_le L.lTO hc)) (Nat.ne_of_gt (Nat.lt_of_lt_of_le L.li1 hc)) (Nat.ne_of_gt (Nat.lt_of_lt_of_le L.li2 hc)) e
  · have up : ∀ {c : Addr}, S ≤ c → c ≠ z ∧ c ≠ i1 ∧ c ≠ i2 := fun {c} hc => ⟨Nat.ne_of_gt (Nat.lt_of_lt_of_le L.lz hc), Nat.ne_of_gt (Nat.lt_of_lt_of_le L.li1 hc), Nat.ne_of_gt (Nat.lt_of_lt_of_le L.li2 hc)⟩
    refine wpAny_pyNext_zip_item_held D e1 e2 st.ti st.h1 st.h2 st.l1 st.l2 hx hy fun h' a1 a3 a4 a5 a6 a7 => hQ h' ⟨.inr ⟨T, true, oT, a1, a7 _ _ (up (Nat.le_of_lt e3)).1 (up (Nat.le_of_lt e3)).2.1 (up (Nat.le_of_lt e3)).2.2 e2, e3⟩, a7 _ _ D.TIz D.TIi1 D.TIi2 st.ti, a3, a4, st.l1.at fun o e => a7 _ _ D.l1z D.l1i1 D.l1i2 e, st.l2.at fun o e => a7 _ _ D.l2z D.l2i1 D.l2i2 e⟩ a5 (fun c o hc e => a7 c o (up hc).1 (up hc).2.1 (up hc).2.2 e) fun c o c1 _ c3 c4 e => a7 c o c1 c3 c4 e
theorem zl_done {i : Nat} {Q : Option Value → Shared → Prop} (hh : A.handled = none) (L : ZLow z TI TO i1 i2 l1 l2 S) (st : ZSt s.heap z TI TO i1 i2 l1 l2 S xs ys i) (hx : xs[i]? = none)
    (hQ : ∀ h', (∀ c o, c ≠ z → c ≠ TO → c ≠ i1 → c ≠ i2 → s.heap.get? c = some o → h'.get? c = some o) → Q none { s with heap := h' }) : wpAny (model prog w) A (pyNext (.ref z)) Q E s := by
  have D := L.ap
  rcases st.zz with ⟨a, b, e1, e2⟩ | ⟨T, f, oT, e1, e2, e3⟩
  · exact wpAny_pyNext_zip_end hh D e1 st.ti e2 st.h1 st.h2 st.l1 st.l2 (.inl hx) fun h' k => hQ h' fun c o c1 c2 c3 c4 e => k c o c1 c2 c3 c4 e
  · exact wpAny_pyNext_zip_end_held hh D e1 e2 st.ti st.h1 st.h2 st.l1 st.l2 (.inl hx) fun h' k => hQ h' fun c o c1 c2 c3 c4 e => k c o c1 c3 c4 e
/-- the pairs told so far -/
structure ZG (xs ys : Array Value) (lo : Addr) (h : Heap) (as : List Addr) : Prop where
  rise : as.Pairwise (· < ·)
  above : ∀ a ∈ as, lo < a
  pairs : ∀ (j : Nat) (a : Addr), as[j]? = some a → ∃ x y, xs[j]? = some x ∧ ys[j]? = some y ∧ IsPair h a x y
theorem ZG.there {h : Heap} {as : List Addr} (g : ZG xs ys S h as) {a : Addr} (ha : a ∈ as) : a < h.objs.size := by
  obtain ⟨j, hj⟩ := List.mem_iff_getElem?.mp ha
  obtain ⟨_, _, _, _, e⟩ := g.pairs j a hj
  exact Heap.lt_size e
theorem zl_loop {R : Result → Shared → Prop} (hh : A.handled = none) (L : ZLow z TI TO i1 i2 l1 l2 S) (hxy : ys.size = xs.size) (hn : xs.size ≤ sizeLine) (res : Value) {h₁ : Heap}
    (hR : ∀ h' tk acc c as, (∀ b o, b ≠ S → b ≠ z → b ≠ TO → b ≠ i1 → b ≠ i2 → h₁.get? b = some o → h'.get? b = some o) → h'.get? S = some { cls := .type "list", dict := none, data := .seq acc c, slots := #[] } → as.length = xs.size → ZG xs ys S h' as → acc.toList = as.map Value.ref → R (.ok (.ret res)) { s with heap := h', toks := tk }) :
    ∀ (k i : Nat) (h : Heap) (tk c : Nat) (acc : Array Value) (as : List Addr), xs.size - i = k → i ≤ xs.size → ZSt h z TI TO i1 i2 l1 l2 S xs ys i → (∀ b o, b ≠ S → b ≠ z → b ≠ TO → b ≠ i1 → b ≠ i2 → h₁.get? b = some o → h.get? b = some o) →
      h.get? S = some { cls := .type "list", dict := none, data := .seq acc c, slots := #[] } → acc.toList = as.map Value.ref → as.length = i → ZG xs ys S h as →
      codeAny (model prog w) A (.builtin "list.extend.loop" ⟨[.ref S, .ref z, res], []⟩) R { s with heap := h, toks := tk } := by
  have nS : S ≠ z ∧ S ≠ TO ∧ S ≠ i1 ∧ S ≠ i2 := ⟨Nat.ne_of_gt L.lz, Nat.ne_of_gt L.lTO, Nat.ne_of_gt L.li1, Nat.ne_of_gt L.li2⟩
  intro k
  induction k with
  | zero =>
    intro i h tk c acc as hk hi st kp hS hacc hal hG
    have hin : i = xs.size := by omega
    refine codeAny_builtin PySem.F.entry_extend_loop ?_
    rw [Around.under_plainId PySem.F.plain_extend_loop _]
    show wpAny _ A.in1 (pyNext (.ref z) >>= _) _ _ _
    refine wpAny_bind (zl_done (s := { s with heap := h, toks := tk }) (A := A.in1) hh L st (Array.getElem?_eq_none (by omega)) fun h' he => ?_)
    refine wpAny_pure (hR h' tk acc c as (fun b o n0 n1 n2 n3 n4 e => he b o n1 n2 n3 n4 (kp b o n0 n1 n2 n3 n4 e)) (he S _ nS.1 nS.2.1 nS.2.2.1 nS.2.2.2 hS) (by omega) ⟨hG.rise, hG.above, fun j a hj => ?_⟩ hacc)
    obtain ⟨x, y, e1, e2, e3⟩ := hG.pairs j a hj
    have hb := hG.above a (List.mem_of_getElem? hj)
    exact ⟨x, y, e1, e2, he a _ (Nat.ne_of_gt (Nat.lt_trans L.lz hb)) (Nat.ne_of_gt (Nat.lt_trans L.lTO hb)) (Nat.ne_of_gt (Nat.lt_trans L.li1 hb)) (Nat.ne_of_gt (Nat.lt_trans L.li2 hb)) e3⟩
  | succ k ih =>
    intro i h tk c acc as hk hi st kp hS hacc hal hG
    have hlt : i < xs.size := by omega
    have hsz : acc.size = i := by rw [← Array.length_toList, hacc, List.length_map, hal]
    refine codeAny_builtin PySem.F.entry_extend_loop ?_
    rw [Around.under_plainId PySem.F.plain_extend_loop _]
    show wpAny _ A.in1 (pyNext (.ref z) >>= _) _ _ _
    have hSl : S < h.objs.size := Heap.lt_size hS
    refine wpAny_bind (zl_item (s := { s with heap := h, toks := tk }) (x := xs[i]) (y := ys[i]) L st hSl (Array.getElem?_eq_getElem hlt) (Array.getElem?_eq_getElem (by omega)) fun h' st' ht hup hkp => ?_)
    have ht : IsPair h' h.objs.size xs[i] ys[i] := ht
    have hS' := hup S _ (Nat.le_refl _) hS
    have up : ∀ b o, b ≠ S → h'.get? b = some o → (h'.update S (Obj.mapSeq (·.push (Value.ref h.objs.size)))).get? b = some o := fun b o hb e => (Heap.get?_update_other _ _ (Ne.symm hb)).trans e
    show wpAny _ A.in1 (updateSeq S (·.push (Value.ref h.objs.size)) >>= _) _ _ _
    refine wpAny_bind (wpAny_updateSeq hS' rfl (wpAny_pure ⟨plainId_quiet PySem.F.plain_extend_loop _, ih (i + 1) _ tk _ (acc.push (Value.ref h.objs.size)) (as ++ [h.objs.size]) (by omega) hlt (st'.keep L up)
      (fun b o n0 n1 n2 n3 n4 e => up b o n0 (hkp b o n1 n2 n3 n4 (kp b o n0 n1 n2 n3 n4 e))) (Heap.get?_update_self _ hS' rfl) (by rw [Array.toList_push, hacc, List.map_append]; rfl) (by rw [List.length_append, hal]; rfl) ⟨?_, ?_, ?_⟩⟩) (by rw [hsz]; omega) (by show (acc.push (Value.ref h.objs.size)).size ≤ sizeLine + 1; rw [Array.size_push, hsz]; omega))
    · refine List.pairwise_append.mpr ⟨hG.rise, List.pairwise_singleton _ _, fun a ha b hb => ?_⟩
      rw [List.mem_singleton.mp hb]
      exact hG.there ha
    · intro a ha
      rcases List.mem_append.mp ha with ha | ha
      · exact hG.above a ha
      · rw [List.mem_singleton.mp ha]; exact hSl
    · intro j b hj
      rcases Nat.lt_trichotomy j as.length with n1 | n1 | n1
      · rw [List.getElem?_append_left n1] at hj
        obtain ⟨x, y, e1, e2, e3⟩ := hG.pairs j b hj
        have hb := hG.above b (List.mem_of_getElem? hj)
        exact ⟨x, y, e1, e2, up b _ (Nat.ne_of_gt hb) (hup b _ (Nat.le_of_lt hb) e3)⟩
      · subst n1
        have hb : h.objs.size = b := by simpa using hj
        subst hb
        subst hal
        exact ⟨_, _, Array.getElem?_eq_getElem hlt, Array.getElem?_eq_getElem (by omega), up _ _ (Nat.ne_of_gt hSl) ht⟩
      · have hnone : (as ++ [h.objs.size])[j]? = none := List.getElem?_eq_none (by rw [List.length_append, List.length_singleton]; omega)
        rw [hnone] at hj; cases hj
theorem zip_no_len : typeLookup (.type "zip") "__len__" = pure none := by rw [typeLookup_type, builtinLookup_eq_fast]; kernel_rfl
theorem zip_no_hint : typeLookup (.type "zip") "__length_hint__" = pure none := by rw [typeLookup_type, builtinLookup_eq_fast]; kernel_rfl
theorem ZSt.ty {h : Heap} {i : Nat} (st : ZSt h z TI TO i1 i2 l1 l2 S xs ys i) {s : Shared} (e : s.heap = h) : s.TypeIs (.ref z) "zip" := by
  rcases st.zz with ⟨a, b, e1, e2⟩ | ⟨T, f, oT, e1, e2, e3⟩
  · exact ⟨_, by rw [e]; exact e1, rfl⟩
  · exact ⟨_, by rw [e]; exact e1, rfl⟩
theorem zl_call {a b : Value} {Q : Value → Shared → Prop} (hh : A.handled = none) (D : ZipApart z TI TO i1 i2 l1 l2) (hz : IsZip s.heap z TI TO .none) (hTO : IsPair s.heap TO a b) (hTI : IsPair s.heap TI (.ref i1) (.ref i2)) (h1 : s.heap.IsListIter i1 l1 0) (h2 : s.heap.IsListIter i2 l2 0) (hl1 : s.heap.IsList l1 xs) (hl2 : s.heap.IsList l2 ys) (hxy : ys.size = xs.size) (hn : xs.size ≤ sizeLine)
    (hQ : ∀ h' tk acc c as, (∀ b o, b ≠ z → b ≠ TO → b ≠ i1 → b ≠ i2 → s.heap.get? b = some o → h'.get? b = some o) → h'.get? s.heap.objs.size = some { cls := .type "list", dict := none, data := .seq acc c, slots := #[] } → as.length = xs.size → ZG xs ys s.heap.objs.size h' as → acc.toList = as.map Value.ref → Q (.ref s.heap.objs.size) { s with heap := h', toks := tk }) :
    wpAny (model prog w) A (call (.type "list") [.ref z]) Q E s := by
  have ltl : ∀ {l : Addr} {v : Array Value}, s.heap.IsList l v → l < s.heap.objs.size := fun {l v} q => let ⟨_, ho, _⟩ := q; Heap.lt_size ho
  have L : ZLow z TI TO i1 i2 l1 l2 s.heap.objs.size := ⟨D, Heap.lt_size hz, Heap.lt_size hTI, Heap.lt_size hTO, (let ⟨_, ho, _⟩ := h1; Heap.lt_size ho), (let ⟨_, ho, _⟩ := h2; Heap.lt_size ho), ltl hl1, ltl hl2⟩
  have st0 : ZSt s.heap z TI TO i1 i2 l1 l2 s.heap.objs.size xs ys 0 := ⟨.inl ⟨a, b, hz, hTO⟩, hTI, h1, h2, hl1, hl2⟩
  refine callType_codes (Q₁ := fun obj s₁ => obj = .ref s.heap.objs.size ∧ s₁ = { s with heap := s.heap.push { cls := .type "list", data := .seq #[] } }) PySem.F.called_list (PySem.F.typeCall_list_1 _) PySem.F.entry_list_init (code_list_new _ ⟨rfl, rfl⟩) fun obj s₁ q₁ => ?_
  obtain ⟨rfl, rfl⟩ := q₁
  have hS : (s.heap.push { cls := .type "list", data := .seq #[] }).get? s.heap.objs.size = some { cls := .type "list", data := .seq #[] } := Heap.get?_push_size _ rfl
  refine ⟨⟨_, hS, rfl⟩, PySem.F.args_list_init_2 _ _, ?_⟩
  show wpAny _ A.in1.in1 (do let old ← Builtin.List.listItems (.ref s.heap.objs.size); Builtin.List.listUpdate (.ref s.heap.objs.size) (fun _ => #[]); letGo old.toList.reverse; Builtin.List.listExtendWith (.ref s.heap.objs.size) (.ref z) .none) _ _ _
  refine wpAny_bind ?_
  unfold Builtin.List.listItems
  refine wpAny_bind (wpAny_seqItems hS rfl (wpAny_pure ?_))
  show wpAny _ A.in1.in1 (updateSeq s.heap.objs.size (fun _ => #[]) >>= fun _ => letGo (#[] : Array Value).toList.reverse >>= fun _ => Builtin.List.listExtendWith (.ref s.heap.objs.size) (.ref z) .none) _ _ _
  refine wpAny_bind (wpAny_updateSeq hS rfl ?_)
  have hS₂ := Heap.get?_update_self (Obj.mapSeq (fun _ => (#[] : Array Value))) hS rfl
  have oth : ∀ b o, b ≠ s.heap.objs.size → s.heap.get? b = some o → ((s.heap.push { cls := .type "list", data := .seq #[] }).update s.heap.objs.size (Obj.mapSeq (fun _ => (#[] : Array Value)))).get? b = some o :=
    fun b o hb e => (Heap.get?_update_other _ _ (Ne.symm hb)).trans (Heap.get?_push_of_some _ e)
  refine wpAny_bind (wpAny_letGo ?_)
  generalize ((s.heap.push { cls := .type "list", data := .seq #[] }).update s.heap.objs.size (Obj.mapSeq (fun _ => (#[] : Array Value)))) = g0 at hS₂ oth
  have st1 : ZSt g0 z TI TO i1 i2 l1 l2 s.heap.objs.size xs ys 0 := st0.keep L oth
  have go : ∀ (g1 : Heap) (c₁ : Nat), (∀ b o, b ≠ s.heap.objs.size → g0.get? b = some o → g1.get? b = some o) → g1.get? s.heap.objs.size = some { cls := .type "list", data := .seq #[] c₁ } →
      codeAny (model prog w) A.in1 (.builtin "list.extend.loop" ⟨[.ref s.heap.objs.size, .ref z, .none], []⟩) (wants (fun r s₂ => r = Value.none ∧ Q (.ref s.heap.objs.size) s₂) E) { s with heap := g1, toks := s.toks } := fun g1 c₁ kp hS₁ =>
    zl_loop (s := s) (h₁ := s.heap) (A := A.in1) hh L hxy hn .none (fun h' tk acc c as k1 k2 k3 k4 k5 => ⟨rfl, hQ h' tk acc c as (fun b o n1 n2 n3 n4 e => k1 b o (Nat.ne_of_lt (Heap.lt_size e)) n1 n2 n3 n4 e) k2 k3 k4 k5⟩) xs.size 0 g1 s.toks c₁ #[] [] (Nat.sub_zero _) (Nat.zero_le _) (st1.keep L kp) (fun b o n0 _ _ _ _ e => kp b o n0 (oth b o n0 e)) hS₁ rfl rfl ⟨List.Pairwise.nil, (fun _ ha => nomatch ha), (fun j a hj => by simp at hj)⟩
  have nS : s.heap.objs.size ≠ z := Nat.ne_of_gt L.lz
  unfold Builtin.List.listExtendWith
  refine wpAny_bind (wpAny_typeOf (T := "zip") (st1.ty rfl) ?_)
  have c1 : Builtin.List.listSameRef (.ref s.heap.objs.size) (.ref z) = false := by simp [Builtin.List.listSameRef, nS]
  have c2 : (Value.type "zip" == Value.type "list") = false := by decide
  have c3 : (Value.type "zip" == Value.type "tuple") = false := by decide
  simp only [c1, c2, c3, Bool.or_false, Bool.false_eq_true, if_false]
  have hz1 : IsZip g0 z TI TO .none := oth _ _ (Nat.ne_of_lt L.lz) hz
  refine wpAny_bind (wpAny_pyIter_zip hz1 ?_)
  refine wpAny_bind (wpAny_holding ?_)
  unfold Builtin.List.listLengthHint
  refine wpAny_bind (wpAny_specialOf (st1.ty rfl) zip_no_len ?_)
  refine wpAny_bind (wpAny_specialOf (st1.ty rfl) zip_no_hint ?_)
  refine wpAny_pure ?_
  show wpAny _ A.in1.in1 (rule "list.extend.makes-room" >>= fun _ => Builtin.List.listTouch (.ref s.heap.objs.size) >>= fun _ => again (.builtin "list.extend.loop" ⟨[.ref s.heap.objs.size, .ref z, .none], []⟩)) _ _ _
  refine wpAny_bind (wpAny_rule (wpAny_bind ?_))
  show wpAny _ A.in1.in1 (updateSeq s.heap.objs.size (·.push .none) >>= fun _ => updateSeq s.heap.objs.size (·.pop)) _ _ _
  refine wpAny_bind (wpAny_updateSeq hS₂ rfl ?_)
  have hS₃ := Heap.get?_update_self (Obj.mapSeq (·.push Value.none)) hS₂ rfl
  refine wpAny_updateSeq (hz := by seq_fits) hS₃ rfl ?_
  have hS₄ := Heap.get?_update_self (Obj.mapSeq (·.pop)) hS₃ rfl
  exact wpAny_pure ⟨plainId_quiet PySem.F.plain_extend_loop _, go _ _ (fun b o hb e => (Heap.get?_update_other _ _ (Ne.symm hb)).trans ((Heap.get?_update_other _ _ (Ne.symm hb)).trans e)) hS₄⟩
end
section
variable {X : Cx} {pins : List (Addr × Obj)} {σ : L2.St} {H : Hp} {s : Shared}
theorem pairs_in {h' : Heap} {tk c : Nat} {acc : Array Value} {kvs : List (Key × V)} {i1 i2 : List Value} {as : List Addr} {S : Addr} (I : Inv X pins σ H s) (rx : Vals (kvs.map fun p => kV p.1) i1) (ry : Vals (kvs.map (·.2)) i2) (hz : kvs.length ≤ sizeLine) (hk : ∀ b o, s.heap.get? b = some o → h'.get? b = some o) (hl : as.length = kvs.length) (hG : ZG i1.toArray i2.toArray S h' as) (hle : s.heap.objs.size ≤ S)
    (hS : h'.get? S = some { cls := .type "list", dict := none, data := .seq acc c, slots := #[] }) (hacc : acc.toList = as.map Value.ref) :
    Inv X pins σ (upd (LiI.putT H as kvs) S (.lst (as.map V.ref))) { s with heap := h', toks := tk } ∧ (∀ t ∈ as, H t = none) ∧ as.Nodup ∧ LiI.putT H as kvs S = none := by
  have dup : as.Nodup := List.Pairwise.imp (fun {a b} (h : a < b) => Nat.ne_of_lt h) hG.rise
  have fr : ∀ t ∈ as, H t = none := fun t ht => I.hok.fresh (Nat.le_of_lt (Nat.lt_of_le_of_lt hle (hG.above t ht)))
  have nS : S ∉ as := fun z => Nat.lt_irrefl _ (hG.above _ z)
  have frS : H S = none := I.hok.fresh hle
  have pt := LiI.putT_at as kvs H hl dup
  have oS : LiI.putT H as kvs S = none := (LiI.putT_off as kvs H nS).trans frS
  have sm : ∀ b u, H b = some u → upd (LiI.putT H as kvs) S (.lst (as.map V.ref)) b = some u := fun b u e => by
    rw [upd_ne (fun z => by rw [z, frS] at e; cases e)]
    exact (LiI.putT_off as kvs H fun z => by rw [fr b z] at e; cases e).trans e
  have lo : ∀ b o, s.heap.get? b = some o → b ∉ as ∧ b ≠ S := fun b o e => ⟨fun z => absurd (Heap.lt_size e) (Nat.not_lt.mpr (Nat.le_of_lt (Nat.lt_of_le_of_lt hle (hG.above b z)))), fun z => absurd (Heap.lt_size e) (by rw [z]; exact Nat.not_lt.mpr hle)⟩
  refine ⟨I.call' (ch := []) rfl ⟨fun b o q _ _ _ => hk b o q, fun b o q _ _ _ => ⟨o.slots, hk b o q⟩, fun b o q n _ => ?_, fun b o q _ => ⟨o, hk b o q⟩, fun b xs q => sm b _ q, fun b o u q => sm b _ q, fun b ps q => ⟨#[], by rw [sm b _ q]; simp⟩⟩ (fun b u q => ?_) I.bare fun b z => by simp at z, fr, dup, oS⟩
  · obtain ⟨z1, z2⟩ := lo b o q
    rw [upd_ne z2]
    exact (LiI.putT_off as kvs H z1).trans n
  by_cases hbS : b = S
  · subst hbS
    rw [upd_same] at q
    cases q
    refine ⟨by rw [List.length_map, hl]; exact hz, acc.toList, c, by rw [hacc]; exact LiI.vals_refs as, ?_⟩
    rw [Array.toArray_toList]
    exact hS
  rw [upd_ne hbS] at q
  by_cases hb : b ∈ as
  · obtain ⟨j, pk, e1, e2, e3⟩ := LiI.paired_ix pt hb
    rw [e3] at q
    cases q
    obtain ⟨x, y, f1, f2, f3⟩ := hG.pairs j b e1
    obtain ⟨x', g1, g2⟩ := rx.get (i := j) (x := kV pk.1) (by rw [List.getElem?_map, e2]; rfl)
    obtain ⟨y', k1, k2⟩ := ry.get (i := j) (x := pk.2) (by rw [List.getElem?_map, e2]; rfl)
    rw [List.getElem?_toArray, g1] at f1
    rw [List.getElem?_toArray, k1] at f2
    cases f1
    cases f2
    exact ⟨by show 2 ≤ sizeLine; decide, [x, y], .cons g2 (.cons k2 .nil), ⟨_, f3, rfl, _, rfl⟩⟩
  · rw [LiI.putT_off as kvs H hb] at q
    exact (I.hok b u q).stay (fun d v _ y => hk d v y) (fun d y => sm d _ y) fun d xs y => sm d _ y
end
variable [TabCtx] {K : PySem.W.Frag} {X : Cx} {W : WN}
def lzK (a b : D) (env : Cs) : Out RV := match a, b with
  | .lst xs, .lst ys => match asKeys xs with
    | some ks => if ks.length = ys.length ∧ sz ys.length = true then .ok (.tmp (.lst ((ks.zip ys).map fun e => .tup [kD e.1, e.2]))) env else .stuck
    | none => .stuck
  | _, _ => .stuck
def gLZ (ga gb : Cs → Out RV) : Cs → Out RV := fun env => (gSet ga env).bind fun a env1 => (gSet gb env1).bind (lzK a)
theorem DvK.zip {F : Hp} : ∀ {ks : List Key} {ys : List D} {vs : List V}, ks.length = ys.length → DvL K F ys vs → DvK K F (ks.zip ys) (ks.zip vs)
  | [], ys, vs, h, t => by cases ys with
    | nil => cases (show vs = [] from t); rfl
    | cons _ _ => cases h
  | k :: ks, [], vs, h, t => by cases h
  | k :: ks, y :: ys, vs, h, t => by
    obtain ⟨v, r, rfl, hv, t⟩ := t
    exact ⟨v, _, rfl, hv, DvK.zip (by simpa using h) t⟩
theorem de_listZip {a b : Expr} {ga gb : Cs → Out RV} {p0 p1 pos zpos : Pos} (hc : X.calm = true) (hg : Gl X "list") (hm : X.mg "list" = none) (hgz : Gl X "zip") (hmz : X.mg "zip" = none) (ha : DE X W a ga) (hb : DE X W b gb)
    (hs : starEach [.Call (.Name "zip" p1) [a, b] [] zpos] X.env = (false, eval (.Call (.Name "zip" p1) [a, b] [] zpos) X.env) :: starEach [] X.env := by rfl)
    (hs1 : starEach [a, b] X.env = (false, eval a X.env) :: starEach [b] X.env := by rfl) (hs2 : starEach [b] X.env = (false, eval b X.env) :: starEach [] X.env := by rfl) (hpl : (backTo zpos (starEach [b] X.env)).any (·.1) = false := by rfl) :
    DE X W (.Call (.Name "list" p0) [.Call (.Name "zip" p1) [a, b] [] zpos] [] pos) (gLZ ga gb) := by
  intro H0 F0 ts env F σ H Q R p
  have hA : DA X W [a, b] (gaC (gSet ga) (gaC (gSet gb) gaN)) := da_cons ha.df (da_cons hb.df da_nil hs2) hs1
  refine .mk fun pins s I => ?_
  refine wpAny_Call_Name_kw (ld_blt I hg hm bt_list ?_ (by decide) (by decide))
  refine PyProof.Rows.callWith_type1 ?_ hs rfl
  rw [hs]
  show wpAny _ _ (spliced ((false, eval (.Call (.Name "zip" p1) [a, b] [] zpos) X.env) :: backTo pos (starEach [] X.env))) _ _ s
  refine Calls.spliced_cons ?_
  have hE : aS X [a, b] σ H fun vs H1 => ∃ F1 ks xs ys env1 v1 v2, vs = [v1, v2] ∧ Rs X.K H0 F0 ts env1 F1 σ H1 ∧ Dv X.K F1 (.lst xs) v1 ∧ Dv X.K F1 (.lst ys) v2 ∧ Same F F1 ∧ asKeys xs = some ks ∧ ks.length = ys.length ∧ sz ys.length = true ∧ PoE X.K W H0 F0 ts F σ Q (.ok (.tmp (.lst ((ks.zip ys).map fun e => .tup [kD e.1, e.2]))) env1) := by
    refine hA H0 F0 ts env F σ H _ R ?_
    unfold gLZ at p
    unfold gaC
    cases q : gSet ga env with
    | stuck => rw [q] at p; exact p.elim
    | exc c => rw [q] at p; exact p
    | ok d1 env1 =>
      rw [q] at p
      dsimp only [Out.bind] at p ⊢
      cases q2 : gSet gb env1 with
      | stuck => rw [q2] at p; exact p.elim
      | exc c => rw [q2] at p; exact p
      | ok d2 env2 =>
        rw [q2] at p
        dsimp only [gaN] at p ⊢
        rintro vs F1 H1 R1 ⟨v1, r1, rfl, dv1, v2, r2, rfl, dv2, er⟩ s1
        cases (show r2 = [] from er)
        cases d1 with
        | lst xs =>
          cases d2 with
          | lst ys =>
            dsimp only [lzK] at p
            cases q3 : asKeys xs with
            | none => rw [q3] at p; exact p.elim
            | some ks =>
              rw [q3] at p
              dsimp only at p
              split at p
              · rename_i hz
                exact ⟨F1, ks, xs, ys, env2, v1, v2, rfl, R1, dv1, dv2, s1, q3, hz.1, hz.2, p⟩
              · exact p.elim
          | _ => exact p.elim
        | _ => exact p.elim
  refine Call_ (ld_blt I hgz hmz PyProof.Rows.boot_zip (PyProof.Rows.callWith_type1 (thn (hE.out zpos pins s I) fun us s1 ⟨vs, H1, I1, r1, q1⟩ => ?_) hs1 hpl))
  obtain ⟨F1, ks, xs, ys, env1, v1, v2, rfl, R1, dv1, dv2, s01, hks, hlk, hz, pq⟩ := q1
  obtain ⟨l1, ws1, rfl, hl1, t1⟩ := dv1
  obtain ⟨l2, ws2, rfl, hl2, t2⟩ := dv2
  cases r1 with
  | cons r rr =>
    cases rr with
    | cons r' rr =>
      cases rr
      cases r
      cases r'
      obtain ⟨it1, rv1, pl1, z1⟩ := I1.list (SqL.of (R1.fh _ _ hl1))
      obtain ⟨it2, rv2, pl2, z2⟩ := I1.list (SqL.of (R1.fh _ _ hl2))
      have ew1 : ws1 = ks.map kV := t1.keys hks
      have len1 : it1.length = ks.length := by rw [← rv1.length, ew1, List.length_map]
      have len2 : it2.length = ys.length := by rw [← rv2.length, t2.length]
      refine call_zip_2 pl1.isList pl2.isList fun h' hzz hTI hTO h1 h2 hsz hk => ?_
      refine Calls.spliced_nil ?_
      refine zl_call (s := { s1 with heap := h' }) (I1.ok.hd hc) (PySem.W.ktu_apart s1.heap.objs.size l1 l2 pl1.lt pl2.lt) hzz hTO hTI h1 h2 (pl1.isList.at fun o e => hk _ _ e) (pl2.isList.at fun o e => hk _ _ e) (by simp only [List.size_toArray]; omega) (by simp only [List.size_toArray]; rw [len1, hlk]; exact sz_le hz) fun h2' tk acc c as kp hS hal hG hacc => ?_
      have hle : s1.heap.objs.size ≤ h'.objs.size := by rw [hsz]; exact Nat.le_add_right _ _
      have kp1 : ∀ b o, s1.heap.get? b = some o → h2'.get? b = some o := fun b o e => by
        have hb := Heap.lt_size e
        have ne : ∀ n, b ≠ s1.heap.objs.size + n := fun n => Nat.ne_of_lt (Nat.lt_of_lt_of_le hb (Nat.le_add_right _ _))
        exact kp b o (ne 4) (ne 3) (ne 0) (ne 1) (hk b o e)
      have zipl : (ks.zip ws2).length = ks.length := by rw [List.length_zip, t2.length, hlk, Nat.min_self]
      have m1 : (ks.zip ws2).map (fun p => kV p.1) = ws1 := by
        rw [ew1, show ((ks.zip ws2).map fun p => kV p.1) = ((ks.zip ws2).map Prod.fst).map kV by rw [List.map_map]; rfl, List.map_fst_zip (by rw [t2.length, hlk]; exact Nat.le_refl _)]
      have m2 : (ks.zip ws2).map (·.2) = ws2 := List.map_snd_zip (by rw [t2.length, hlk]; exact Nat.le_refl _)
      obtain ⟨J, fr, dup, oS⟩ := pairs_in (tk := tk) (kvs := ks.zip ws2) I1 (by rw [m1]; exact rv1) (by rw [m2]; exact rv2) (by rw [zipl, hlk]; exact sz_le hz) kp1 (by rw [hal, zipl]; simpa using len1) hG hle hS hacc
      refine ⟨.ref h'.objs.size, _, J, rfl, ?_⟩
      obtain ⟨x, dv⟩ := putT_ext as R1.fh (DvK.zip (ks := ks) hlk t2) (by rw [hal, zipl]; simpa using len1) fr dup
      have x2 := Ext.tmp (o := .lst (as.map V.ref)) x.fh oS
      exact pq (.ref h'.objs.size) _ _ (R1.push (x.trans x2) (x.hh.nt (.of oS)) (x.fh.free oS) ⟨_, upd_same, dv⟩) ⟨_, rfl, List.mem_cons_self⟩ (s01.trans x.ff)
end DL

namespace DL
open PySem PySem.Spec PyProof.Rows L2
variable [TabCtx] {K : PySem.W.Frag} {X : Cx} {W : WN}
/-! ### statements with changeable objects known by their places -/
open Classical in
noncomputable def inT (ts : List (Addr × D)) (H H0 : Hp) : Hp := fun b => if b ∈ ts.map (·.1) then H b else H0 b
section
variable {H0 F0 : Hp} {ts : List (Addr × D)} {env : Cs} {F H : Hp} {σ : L2.St}
theorem inT_in {b : Addr} (h : b ∈ ts.map (·.1)) : inT ts H H0 b = H b := if_pos h
theorem inT_out {b : Addr} (h : b ∉ ts.map (·.1)) : inT ts H H0 b = H0 b := if_neg h
theorem Rs.tsObj (R : Rs K H0 F0 ts env F σ H) {b : Addr} (h : b ∈ ts.map (·.1)) : ∃ o, H b = some o ∧ (∀ xs, o ≠ .tup xs) ∧ ∀ ps, o ≠ .tbl ps := by
  obtain ⟨p, hp, rfl⟩ := List.mem_map.mp h
  obtain ⟨o, _, _⟩ := R.tmp p hp
  obtain ⟨u, hu, nt⟩ := o.some
  obtain ⟨u', hu', nb, _⟩ := o.mut
  rw [hu] at hu'
  cases hu'
  exact ⟨u, hu, nt, nb⟩
/-- the objects of ts are put aside -/
theorem Rs.aside (R : Rs K H0 F0 ts env F σ H) : Rs K (inT ts H H0) F [] env F σ H where
  fh := R.fh
  h0 := ⟨fun b o e n => by
    by_cases hb : b ∈ ts.map (·.1)
    · rw [inT_in hb] at e; exact e
    · rw [inT_out hb] at e; exact R.h0.keep b o e n, fun _ => R.tb⟩
  tb := R.tb
  nf := R.nf
  f0 := .refl _
  nw := fun _ h => .inl h
  len := R.len
  cells := fun i c e => by
    have c0 := R.cells i c e
    cases c with
    | un => trivial
    | frz d => exact c0
    | own d =>
      obtain ⟨a, ea, o, nf, n0⟩ := c0
      exact ⟨a, ea, o, nf, fun u z => n0 u (by rw [inT_out (R.tdj i d a e ea)] at z; exact z)⟩
  dj := R.dj
  tmp := fun p hp => by cases hp
  tnd := List.nodup_nil
  tdj := fun _ _ _ _ _ => by simp
/-- and taken back -/
theorem Rs.took {env' : Cs} {F' H' : Hp} {σ' : L2.St} (R : Rs K H0 F0 ts env F σ H) (R' : Rs K (inT ts H H0) F [] env' F' σ' H') : Rs K H0 F0 ts env' F' σ' H' := by
  have outF : ∀ {b : Addr}, b ∈ ts.map (·.1) → F b = none := fun {b} h => by
    obtain ⟨p, hp, rfl⟩ := List.mem_map.mp h
    exact (R.tmp p hp).2.1
  have isH : ∀ {b : Addr}, b ∈ ts.map (·.1) → H' b = H b := fun {b} h => by
    obtain ⟨o, ho, _, nb⟩ := R.tsObj h
    rw [R'.h0.keep b o (by rw [inT_in h]; exact ho) nb, ho]
  have outF' : ∀ {b : Addr}, b ∈ ts.map (·.1) → F' b = none := fun {b} h => by
    obtain ⟨o, ho, nt, nb⟩ := R.tsObj h
    cases q : F' b with
    | none => rfl
    | some u =>
      rcases R'.nw b (by rw [q]; simp) with z | z | ⟨xs, z⟩
      · exact absurd (outF h) z
      · obtain ⟨ps, e⟩ := z o (by rw [inT_in h]; exact ho)
        exact absurd e (nb ps)
      · have q1 := R'.fh _ _ z
        rw [isH h, ho] at q1
        exact absurd (Option.some.inj q1) (nt xs)
  have ownOut : ∀ {i : Nat} {d : D} {a : Addr}, env'[i]? = some (.own d) → σ'[i]? = some (some (.ref a)) → a ∉ ts.map (·.1) := fun {i d a} e1 e2 m => by
    obtain ⟨b, eb, o, nf, n0⟩ := R'.cells i _ e1
    rw [e2] at eb
    cases eb
    obtain ⟨u, hu, _, nb⟩ := R.tsObj m
    obtain ⟨ps, e⟩ := n0 u (by rw [inT_in m]; exact hu)
    exact nb ps e
  refine ⟨R'.fh, ⟨fun b o e n => ?_, fun _ => R'.tb⟩, R'.tb, R'.nf, R.f0.trans R'.f0, fun b h => ?_, R'.len, fun i c e => ?_, R'.dj, fun p hp => ?_, R.tnd, fun i d a e1 e2 => ownOut e1 e2⟩
  · by_cases hb : b ∈ ts.map (·.1)
    · obtain ⟨p, hp, rfl⟩ := List.mem_map.mp hb
      obtain ⟨ps, q⟩ := (R.tmp p hp).2.2 o e
      exact absurd q (n ps)
    · exact R'.h0.keep b o (by rw [inT_out hb]; exact e) n
  · rcases R'.nw b h with q | q | q
    · rcases R.nw b q with z | z | ⟨xs, z⟩
      · exact .inl z
      · exact .inr (.inl z)
      · exact .inr (.inr ⟨xs, R'.f0 _ _ z⟩)
    · have hb : b ∉ ts.map (·.1) := fun m => h (outF' m)
      exact .inr (.inl fun o e => q o (by rw [inT_out hb]; exact e))
    · exact .inr (.inr q)
  · have c0 := R'.cells i c e
    cases c with
    | un => trivial
    | frz d => exact c0
    | own d =>
      obtain ⟨a, ea, o, nf, n0⟩ := c0
      have hb := ownOut e ea
      exact ⟨a, ea, o, nf, fun u z => n0 u (by rw [inT_out hb]; exact z)⟩
  · have hm : p.1 ∈ ts.map (·.1) := List.mem_map.mpr ⟨p, hp, rfl⟩
    obtain ⟨o, _, n0⟩ := R.tmp p hp
    exact ⟨o.mono R'.f0 fun u q _ => by rw [isH hm]; exact q, outF' hm, n0⟩
end
/-- a statement told of by its reading, beside objects known by their places -/
theorem DS.ts {st : Stmt} {g : Cs → OS} (h : DS X W st g) {H0 F0 : Hp} {ts : List (Addr × D)} {env env' : Cs} {F H : Hp} {σ : L2.St} {D : Ends} (R : Rs X.K H0 F0 ts env F σ H) (q : g env = .nx env') (p : ∀ F' σ' H', Rs X.K H0 F0 ts env' F' σ' H' → D.nx σ' H') : sS X st D σ H :=
  h (inT ts H H0) F env F σ H D R.aside (by rw [q]; exact fun F' σ' H' R' => p F' σ' H' (R.took R'))
/-- a for beside objects known by their places -/
theorem for_ts {tg iter : Expr} {body : List Stmt} {sl : List Nat} {gi : Cs → Out (List D)} {t : D → Cs → Option Cs} {pos : Pos} (hp : PassesOwn (model X.prog X.w) X.A X.env X.xe) (hc : X.calm = true) (hi : DI X W tg iter gi) (hg : DG X tg sl t)
    {H0 F0 : Hp} {ts : List (Addr × D)} {env env1 : Cs} {F H : Hp} {σ : L2.St} {Z : Ends} {ds : List D} (R : Rs X.K H0 F0 ts env F σ H) (q : gi env = .ok ds env1) (I : List D → Cs → List (Addr × D) → Prop) (h0 : I ds env1 ts)
    (step : ∀ d rest env ts, I (d :: rest) env ts → ∃ env', t d env = some env' ∧ ∀ (F1 F : Hp) (σ : L2.St) (H : Hp), Rs X.K H0 F1 ts env' F σ H → ∀ Z' : Ends, (∀ env'' ts'' F'' σ'' H'', I rest env'' ts'' → Rs X.K H0 F1 ts'' env'' F'' σ'' H'' → Z'.nx σ'' H'') → bS X body Z' σ H)
    (fin : ∀ env ts F σ H, I [] env ts → Rs X.K H0 F0 ts env F σ H → Z.nx σ H) (hs : ∀ x, foldedSetIterable iter X.env x = pure x := by intro _; rfl) : sS X (.For tg iter body [] pos) Z σ H := by
  refine PS.sem (ps_for hp hc pi_sem pg_sem pss_sem hs) (hi H0 F0 ts env F σ H _ R ?_)
  rw [q]
  intro J F1 H1 R1 s1 it
  refine ⟨fun k m σ H => k ≤ ds.length ∧ m = ds.length - k ∧ ∃ env ts F, Rs X.K H0 F1 ts env F σ H ∧ I (ds.drop k) env ts, ⟨_, Nat.zero_le _, rfl, env1, ts, F1, R1.from_, by simpa using h0⟩, ?_⟩
  rintro k m σ2 H2 ⟨hk, rfl, env2, ts2, F2, R2, i2⟩
  obtain ⟨go, stop⟩ := it F2 H2 R2.f0 R2.fh
  by_cases hlt : k < ds.length
  · refine .inr ⟨(go k ds[k] (List.getElem?_eq_getElem hlt)).1, fun σ' H' => ∃ env ts F, Rs X.K H0 F1 ts env F σ' H' ∧ I (ds.drop (k + 1)) env ts, fun σ' H' h => ⟨ds.length - (k + 1), by omega, hlt, rfl, h⟩, fun x H3 hy => ?_⟩
    obtain ⟨F3, x3, dv⟩ := (go k ds[k] (List.getElem?_eq_getElem hlt)).2 x H3 hy
    rw [List.drop_eq_getElem_cons hlt] at i2
    obtain ⟨env3, e3, hb⟩ := step ds[k] (ds.drop (k + 1)) env2 ts2 i2
    exact hg H0 F1 ts2 env2 F3 σ2 H3 ds[k] x env3 _ (R2.ext x3) dv e3 fun σ4 R4 _ => hb F1 F3 σ4 H3 R4 _ fun env'' ts'' F'' σ'' H'' iq Rq => ⟨env'', ts'', F'', Rq, iq⟩
  · have e : k = ds.length := by omega
    subst e
    rw [List.drop_length] at i2
    exact .inl ⟨stop, fin env2 ts2 F2 σ2 H2 i2 (R1.back R2)⟩
/-! re-descriptions -/
section
variable {H0 F0 : Hp} {ts : List (Addr × D)} {env : Cs} {F H : Hp} {σ : L2.St}
theorem Rs.perm {ts' : List (Addr × D)} (R : Rs K H0 F0 ts env F σ H) (p : ts.Perm ts') : Rs K H0 F0 ts' env F σ H :=
  { R with tmp := fun q hq => R.tmp q (p.mem_iff.mpr hq), tnd := (p.map _).nodup_iff.mp R.tnd, tdj := fun i d a e1 e2 m => R.tdj i d a e1 e2 ((p.map _).mem_iff.mpr m) }
theorem Rs.toOwn {i : Nat} {a : Addr} {d : D} (R : Rs K H0 F0 ((a, d) :: ts) env F σ H) (hi : env[i]? = some (.frz (.adr a))) : Rs K H0 F0 ts (env.set i (.own d)) F σ H := by
  obtain ⟨v, ev, hv⟩ := R.cells i _ hi
  have hv : v = .ref a := hv
  subst hv
  have := R.storeOwn i
  have es : σ.set i (some (.ref a)) = σ := by
    obtain ⟨hl, e⟩ := List.getElem?_eq_some_iff.mp ev
    rw [← e, List.set_getElem_self]
  rwa [es] at this
theorem Rs.redesc {i : Nat} {d d' : D} (R : Rs K H0 F0 ts env F σ H) (hi : env[i]? = some (.own d)) (h : ∀ a, σ[i]? = some (some (.ref a)) → OwnAt K F H a d → OwnAt K F H a d') : Rs K H0 F0 ts (env.set i (.own d')) F σ H := by
  obtain ⟨a, ea, o, nf, n0⟩ := R.cells i _ hi
  have o' := h a ea o
  obtain ⟨u, hu, _⟩ := o'.some
  have := R.write (o := u) hi ea (by rw [upd_id hu]; exact o')
  rwa [upd_id hu] at this
theorem Rs.giveT {a : Addr} {xs : List D} (R : Rs K H0 F0 ((a, .lst xs) :: ts) env F σ H) : ∃ F', Same F F' ∧ Rs K H0 F0 ts env F' σ H ∧ Dv K F' (.lst xs) (.ref a) := by
  obtain ⟨⟨vs, e, t⟩, nf, _⟩ := R.tmp (a, .lst xs) List.mem_cons_self
  have nf : F a = none := nf
  have e : H a = some (.lst vs) := e
  refine ⟨upd F a (.lst vs), Same.upd nf, ?_, a, vs, rfl, upd_same, t.mono (Same.upd nf)⟩
  have := R.give (.lst vs)
  rwa [upd_id e] at this
end
/-! deeds on objects known by their places -/
theorem ts_append {E e : Expr} {gE : Cs → Out RV} {g : Cs → Out D} {apos cpos : Pos} (hE : DE X W E gE) (he : DF X W e g) {H0 F0 : Hp} {ts : List (Addr × D)} {env env1 env2 : Cs} {F H : Hp} {σ : L2.St} {Q : VK} {a : Addr} {xs : List D} {d : D} (R : Rs X.K H0 F0 ((a, .lst xs) :: ts) env F σ H) (q1 : gE env = .ok (.frz (.adr a)) env1) (q2 : g env1 = .ok d env2) (hz : sz (xs.length + 1) = true)
    (p : ∀ F' H', Rs X.K H0 F0 ((a, .lst (xs ++ [d])) :: ts) env2 F' σ H' → Q .non H')
    (hbase : attributeBase E "append" X.env (eval E X.env) = eval E X.env := by rfl)
    (hfew : ((backTo cpos (starEach [e] X.env)).all (fun x => !x.1) && (backToKw cpos (keywordEach [] X.env)).all (fun x => x.1.isSome) && decide (([e] : List Expr).length + ([] : List Keyword).length + (if ([] : List Keyword).isEmpty then 0 else 1) < 30)) = true := by rfl)
    (hline : (apos.endLine == cpos.line) = true := by rfl) (hs : starEach [e] X.env = (false, eval e X.env) :: starEach [] X.env := by rfl) : eS X (.Call (.Attribute E "append" apos) [e] [] cpos) σ H Q := by
  refine PE.sem (pe_bm (t := tCons (eS X e) tNil) PySem.F.plainAttrs_list PySem.F.slot_list_append PySem.F.type_list_append mt_append pe_sem (pa_cons pe_sem pa_nil hs) hbase hfew hline hs) (hE H0 F0 _ env F σ H _ R ?_)
  rw [q1]
  intro v F1 H1 R1 h1 s1
  have h1 : v = .ref a := h1
  subst h1
  obtain ⟨⟨vs0, e0, _⟩, _, _⟩ := R1.tmp (a, .lst xs) List.mem_cons_self
  refine ⟨.inl ⟨rfl, _, SqL.of e0⟩, he H0 F0 _ env1 F1 σ H1 _ R1 ?_⟩
  rw [q2]
  intro w F2 H2 R2 h2 s2
  obtain ⟨⟨vs, e2, t2⟩, _, _⟩ := R2.tmp (a, .lst xs) List.mem_cons_self
  refine ⟨a, vs, w, rfl, rfl, e2, by rw [t2.length]; exact sz_lt hz, p F2 _ (R2.writeT ⟨_, upd_same, t2.app ⟨w, [], rfl, h2, rfl⟩⟩)⟩
theorem ts_appNew (i : Nat) {x : Str} {px p0 apos cpos : Pos} (hi : X.N[i]? = some x) (hx : Vis X.env.scope x) {H0 F0 : Hp} {ts : List (Addr × D)} {env : Cs} {F H : Hp} {σ : L2.St} {Q : VK} {ds : List D} (R : Rs X.K H0 F0 ts env F σ H) (q : env[i]? = some (.own (.lst ds))) (hz : sz (ds.length + 1) = true)
    (p : ∀ a F' H', Rs X.K H0 F0 ((a, .lst []) :: ts) (env.set i (.own (.lst (ds ++ [.adr a])))) F' σ H' → Q .non H')
    (hbase : attributeBase (.Name x px) "append" X.env (eval (.Name x px) X.env) = eval (.Name x px) X.env := by rfl)
    (hfew : ((backTo cpos (starEach [.List [] p0] X.env)).all (fun x => !x.1) && (backToKw cpos (keywordEach [] X.env)).all (fun x => x.1.isSome) && decide (([.List [] p0] : List Expr).length + ([] : List Keyword).length + (if ([] : List Keyword).isEmpty then 0 else 1) < 30)) = true := by rfl)
    (hline : (apos.endLine == cpos.line) = true := by rfl) (hs : starEach [.List [] p0] X.env = (false, eval (.List [] p0) X.env) :: starEach [] X.env := by rfl)
    (hd : (x == ("__debug__" : Str)) = false := by decide) (hcd : (x == ("__classdict__" : Str)) = false := by decide) : eS X (.Call (.Attribute (.Name x px) "append" apos) [.List [] p0] [] cpos) σ H Q := by
  refine PE.sem (pe_bm (t := tCons (eS X (.List [] p0)) tNil) PySem.F.plainAttrs_list PySem.F.slot_list_append PySem.F.type_list_append mt_append (pe_var hi hx hd hcd) (pa_cons pe_sem pa_nil hs) hbase hfew hline hs) ?_
  obtain ⟨b, eb, ⟨vs0, e0, _⟩, _⟩ := R.cells i _ q
  refine ⟨.ref b, eb, .inl ⟨rfl, _, SqL.of e0⟩, (de_lst (W := W0) da_nil) H0 F0 ts env F σ H _ R ?_⟩
  show PoE X.K W0 H0 F0 ts F σ _ (.ok (.tmp (.lst [])) env)
  rintro v F1 H1 R1 ⟨a, rfl, _⟩ s1
  have R1 : Rs X.K H0 F0 ((a, .lst []) :: ts) env F1 σ H1 := R1
  obtain ⟨b', eb', ⟨vs, e2, t2⟩, nf, n0⟩ := R1.cells i _ q
  rw [eb] at eb'
  cases eb'
  exact ⟨b, vs, .ref a, rfl, rfl, e2, by rw [t2.length]; exact sz_lt hz, p a F1 _ (R1.write q eb ⟨_, upd_same, t2.app ⟨.ref a, [], rfl, rfl, rfl⟩⟩)⟩
theorem ts_nest {p0 p1 : Pos} {H0 F0 : Hp} {ts : List (Addr × D)} {env : Cs} {F H : Hp} {σ : L2.St} {Q : VK} (R : Rs X.K H0 F0 ts env F σ H) (p : ∀ a b F' H', Rs X.K H0 F0 ((b, .lst [.adr a]) :: (a, .lst []) :: ts) env F' σ H' → Q (.ref b) H')
    (hs : starEach [.List [] p0] X.env = (false, eval (.List [] p0) X.env) :: starEach [] X.env := by rfl) : eS X (.List [.List [] p0] p1) σ H Q := by
  refine PE.sem (pe_lst (pa_cons pe_sem pa_nil hs)) ((de_lst (W := W0) da_nil) H0 F0 ts env F σ H _ R ?_)
  show PoE X.K W0 H0 F0 ts F σ _ (.ok (.tmp (.lst [])) env)
  rintro v F1 H1 R1 ⟨a, rfl, _⟩ s1
  have R1 : Rs X.K H0 F0 ((a, .lst []) :: ts) env F1 σ H1 := R1
  refine ⟨by show 1 ≤ sizeLine; decide, fun b hb => ?_⟩
  have x : Ext F1 H1 F1 (upd H1 b (.lst [.ref a])) := Ext.tmp R1.fh hb
  exact p a b _ _ (R1.push x (.of hb) (R1.fh.free hb) ⟨_, upd_same, _, [], rfl, rfl, rfl⟩)
end DL

namespace DL
open PySem PySem.Spec PyProof.Rows L2
variable [TabCtx]
local macro_rules | `(tactic| walk_at "ev") => `(tactic| simp only [notIn2_s, notIn2_i, in2_s, in2_i, rev2_l, rev2_t, list2_l, list2_t, list2_k, list2_T, itK_dT, vG_T, vG2_T, vU2_T, notIn2_d, wipe_n, wipe_c, e_runF, lp_nx, lp_ct, lp_rt, tgt_some, for_cons, for_nil, e_tN, e_tTp, e_tCons, e_tNil, Option.bind_some, fin_rt, fin_nx, fin_exc, wp_nx, wp_ct, wp_rt, ↓bind_X, ↓bs_X, ↓seq_X, ↓lp_X, ↓tgt_X, bindX_ok, bindX_exc, bsX_ok, bsX_exc, seq_nx, seq_rt, seq_exc, seq_ct, seq_bk, e_sSeq, e_sNx, e_sCt, e_sBk, e_gNl, nlK_frz, nlK_tmp, settle_frz, settle_tmp, e_gSet, val_frz, val_tmp, e_gPk, e_gC, e_gB, bK_bl, e_gNot, e_gAnd, e_gOr, e_gAndV, e_gOrV, e_gNotV, e_gIf, e_sIf, e_g1, e_g2, outR_f, outR_t, e_gCh, chK_int, chK2_int, orK_ret, orK_exc, e_gCall, e_gaN, e_gaC, e_gTp, e_gLs, e_gDn, e_sSet, e_sEx, e_sRet, ret_frz, ret_tmp, cell_frz, cell_tmp, e_sPar2, e_sPar3, e_sFor, e_gLc, e_giA, itK_lst, itK_tup, itK_dK, itK_str, e_giR1, r1K_int, e_giR2, r2K_int, e_giE, enK_lst, e_giET, etK_t, ln_0, ln_1, ln_2, ln_3, ln_4, ln_5, ln_6, ln_7, ln_8, e_giZ, zipK_l, zipK_t, e_gLR, lrK_i, e_sRs, e_gDisp, e_gpN, e_gpC, gpK_i, gpK_s, e_int, e_intB, e_sPut, e_sAsg, e_gYes, e_sWhile, v_asg, v_pop, vPo_o, v_pop0, vP0_o,  e_goN, e_goS, goK_int, e_gSl, v_gV, vV_f, vV_o, v_set, vS_o, v_nl, v_val, vL_o, v_pk, vP_s, v_k1, v1_s, v_k2, v2_s, v_ret, vR_o, v_app, vA_o, v_appK, vA2_o, v_ext, vE_o, v_extK, vE2_o, vE2_t, v_get, vG_K, v_getK, vG2_i, vG2_t, v_put1, vU_o, v_put2, vU2_i, vU2_t, v_sl, vC_l, vC_t, v_noE, nE_ok, e_add, e_sub, e_neg, e_cmp, e_ltI, eq2_i, eq2_s, eq2_l, eq2_t, eq2_b, eq2_n, eq2_c, ne2_i, ne2_s, ne2_l, ne2_t, ne2_b, ne2_n, ne2_c, sort2_l, sort2_k, e_eqI, e_neI, e_eqS, e_neS, e_ix0, e_ix1, e_ix2, e_ix3, e_lenL, e_lenT, e_lenC, e_lenK, e_max2, e_min2, e_tupL, e_lstT, e_lstL, e_revL, isi_int_int, isi_bool_int, isi_str_str, isi_tup, isi_lst, isi_dict, List.getElem?_cons_zero, List.getElem?_cons_succ, List.set_cons_zero, List.set_cons_succ, List.map_cons, List.map_nil, List.cons_append, List.nil_append, List.length_cons, List.length_nil, List.replicate_succ, List.replicate_zero, Nat.reduceAdd, Nat.reduceSub, Nat.reduceEqDiff, ↓reduceIte, Bool.not_true, Bool.not_false, fLe, fLt, fGe, fGt, Bool.false_eq_true, Nat.reduceLeDiff, Int.ofNat_eq_coe, Int.cast_ofNat_Int, decide_true, decide_false])
local macro_rules | `(tactic| push_cast [$ls,*]) => `(tactic| simp only [notIn2_s, notIn2_i, in2_s, in2_i, rev2_l, rev2_t, list2_l, list2_t, list2_k, list2_T, itK_dT, vG_T, vG2_T, vU2_T, notIn2_d, wipe_n, wipe_c, e_runF, lp_nx, lp_ct, lp_rt, tgt_some, for_cons, for_nil, e_tN, e_tTp, e_tCons, e_tNil, Option.bind_some, fin_rt, fin_nx, fin_exc, wp_nx, wp_ct, wp_rt, ↓bind_X, ↓bs_X, ↓seq_X, ↓lp_X, ↓tgt_X, bindX_ok, bindX_exc, bsX_ok, bsX_exc, seq_nx, seq_rt, seq_exc, seq_ct, seq_bk, e_sSeq, e_sNx, e_sCt, e_sBk, e_gNl, nlK_frz, nlK_tmp, settle_frz, settle_tmp, e_gSet, val_frz, val_tmp, e_gPk, e_gC, e_gB, bK_bl, e_gNot, e_gAnd, e_gOr, e_gAndV, e_gOrV, e_gNotV, e_gIf, e_sIf, e_g1, e_g2, outR_f, outR_t, e_gCh, chK_int, chK2_int, orK_ret, orK_exc, e_gCall, e_gaN, e_gaC, e_gTp, e_gLs, e_gDn, e_sSet, e_sEx, e_sRet, ret_frz, ret_tmp, cell_frz, cell_tmp, e_sPar2, e_sPar3, e_sFor, e_gLc, e_giA, itK_lst, itK_tup, itK_dK, itK_str, e_giR1, r1K_int, e_giR2, r2K_int, e_giE, enK_lst, e_giET, etK_t, ln_0, ln_1, ln_2, ln_3, ln_4, ln_5, ln_6, ln_7, ln_8, e_giZ, zipK_l, zipK_t, e_gLR, lrK_i, e_sRs, e_gDisp, e_gpN, e_gpC, gpK_i, gpK_s, e_int, e_intB, e_sPut, e_sAsg, e_gYes, e_sWhile, v_asg, v_pop, vPo_o, v_pop0, vP0_o,  e_goN, e_goS, goK_int, e_gSl, v_gV, vV_f, vV_o, v_set, vS_o, v_nl, v_val, vL_o, v_pk, vP_s, v_k1, v1_s, v_k2, v2_s, v_ret, vR_o, v_app, vA_o, v_appK, vA2_o, v_ext, vE_o, v_extK, vE2_o, vE2_t, v_get, vG_K, v_getK, vG2_i, vG2_t, v_put1, vU_o, v_put2, vU2_i, vU2_t, v_sl, vC_l, vC_t, v_noE, nE_ok, e_add, e_sub, e_neg, e_cmp, e_ltI, eq2_i, eq2_s, eq2_l, eq2_t, eq2_b, eq2_n, eq2_c, ne2_i, ne2_s, ne2_l, ne2_t, ne2_b, ne2_n, ne2_c, sort2_l, sort2_k, e_eqI, e_neI, e_eqS, e_neS, e_ix0, e_ix1, e_ix2, e_ix3, e_lenL, e_lenT, e_lenC, e_lenK, e_max2, e_min2, e_tupL, e_lstT, e_lstL, e_revL, isi_int_int, isi_bool_int, isi_str_str, isi_tup, isi_lst, isi_dict, List.getElem?_cons_zero, List.getElem?_cons_succ, List.set_cons_zero, List.set_cons_succ, List.map_cons, List.map_nil, List.cons_append, List.nil_append, List.length_cons, List.length_nil, List.replicate_succ, List.replicate_zero, Nat.reduceAdd, Nat.reduceSub, Nat.reduceEqDiff, ↓reduceIte, Bool.not_true, Bool.not_false, fLe, fLt, fGe, fGt, Bool.false_eq_true, Nat.reduceLeDiff, Int.ofNat_eq_coe, Int.cast_ofNat_Int, decide_true, decide_false, $ls,*])
/-! ### a def walked by hand -/
theorem fn_hand {P : Program} {w : World} {K : PySem.W.Frag} {mg : Str → Option Value} {base : Heap} {ca : Str → Addr} {x qual : Str} {params : Arguments} {body : List Stmt} {scope : Scope} {f : Addr} {fd : FuncData} {N ps : List Str} {k : Nat} (Fd : FunD K x qual params body scope [] [] f fd) (S : FnScope N ps scope) (hm : mg x = some (.ref f)) (hb : Binds K fd ps []) (fs : List D → OR) (hx : ∀ ds c, fs ds ≠ .exc c)
    (h : ∀ (cdv : Value) (A : Around) (outer : List Env) (s : Shared) (H : Hp) (E : XK), Room k (A.deeper (envOfC qual scope s.heap.objs.size f cdv)) → ∀ (F : Hp) (ds : List D) (vs : List V) (Z : Ends) (r : Rn), Same F H ∧ NoTb F ∧ TabsH H → DvL K F ds vs → ds.length = ps.length → fs ds = .ret r → PV K F H Z.rt (some r) → bS (cxOf (L2N.CX P w) P w K mg base N qual scope f cdv A outer s H E) body Z (start N vs) H) :
    FnN P w K mg base ca x (k + 1) ps.length fs := by
  refine ⟨f, fd, ps, Fd.ok S (fun vs H Q E h => ?_) (fun cdv A outer s H vs Q E hr hsp => ?_), hm, Fd.kp, hb⟩
  · obtain ⟨F, ds, _, t, hn, _⟩ := h
    rw [t.length, hn]
  · obtain ⟨F, ds, sF, t, hn, hq⟩ := hsp
    cases q : fs ds with
    | stuck => rw [q] at hq; exact hq.elim
    | exc c => exact absurd q (hx ds c)
    | ret r =>
      rw [q] at hq
      exact ⟨_, pss_sem, h cdv A outer s H E hr F ds vs _ r sF t hn q hq⟩
section
variable {X : Cx} {W : WN}
theorem if_ts {c : Expr} {a b : List Stmt} {gc : Cs → Out Bool} {pos : Pos} (hc : DT X W c gc) {H0 F0 : Hp} {ts : List (Addr × D)} {env env1 : Cs} {F H : Hp} {σ : L2.St} {Z : Ends} {k : Bool} (R : Rs X.K H0 F0 ts env F σ H) (q : gc env = .ok k env1) (p : ∀ F' H', Rs X.K H0 F0 ts env1 F' σ H' → bS X (if k = true then a else b) Z σ H') : sS X (.If c a b pos) Z σ H := by
  refine PS.sem (ps_if pt_sem pss_sem pss_sem) (hc H0 F0 ts env F σ H _ R ?_)
  rw [q]
  intro F' H' R' _
  cases k with
  | true => exact p F' H' R'
  | false => exact p F' H' R'
end
/-! ### grown: the calls of one hand's rows -/
def grS : List D → List (List D) → List (D × D) → Option (List D)
  | [], st, _ => match st with
    | [xs] => some xs
    | _ => none
  | d :: rows, st, hd => match d with
    | .tup [t, _, .str w, n] => if w = "begin" then grS rows ([] :: st) ((n, t) :: hd) else match st, hd with
      | x0 :: x1 :: st', (n', f) :: hd' => grS rows ((x1 ++ [.tup [n', f, t, .tup x0]]) :: st') hd'
      | _, _ => none
    | _ => none
def sem_grown : List D → OR
  | [.lst rows] => if rows.length ≤ 100000 then (match grS rows [[]] [] with
    | some xs => .ret (.f (.tup xs))
    | none => .stuck) else .stuck
  | _ => .stuck
theorem grown_nx (ds : List D) (c : Str) : sem_grown ds ≠ .exc c := by
  intro z
  unfold sem_grown at z
  split at z
  · split at z
    · split at z <;> cases z
    · cases z
  · cases z
theorem grown_ok {ds : List D} {r : Rn} (h : sem_grown ds = .ret r) : ∃ rows xs, ds = [.lst rows] ∧ rows.length ≤ 100000 ∧ grS rows [[]] [] = some xs ∧ r = .f (.tup xs) := by
  unfold sem_grown at h
  split at h
  · rename_i rows
    split at h
    · rename_i hz
      split at h
      · rename_i xs q
        cases h
        exact ⟨rows, xs, rfl, hz, q, rfl⟩
      · cases h
    · cases h
  · cases h
theorem grS_cons {d : D} {rows : List D} {st : List (List D)} {hd : List (D × D)} {xs : List D} (h : grS (d :: rows) st hd = some xs) : ∃ t g w n, d = .tup [t, g, .str w, n] ∧ ((w = "begin" ∧ grS rows ([] :: st) ((n, t) :: hd) = some xs) ∨ (w ≠ "begin" ∧ ∃ x0 x1 st' n' f hd', st = x0 :: x1 :: st' ∧ hd = (n', f) :: hd' ∧ grS rows ((x1 ++ [.tup [n', f, t, .tup x0]]) :: st') hd' = some xs)) := by
  unfold grS at h
  split at h
  · rename_i t g w n
    refine ⟨t, g, w, n, rfl, ?_⟩
    split at h
    · rename_i hw
      exact .inl ⟨hw, h⟩
    · rename_i hw
      split at h
      · rename_i x0 x1 st' n' f hd'
        exact .inr ⟨hw, x0, x1, st', n', f, hd', rfl, rfl, h⟩
      · cases h
  · cases h
theorem grS_nil {st : List (List D)} {hd : List (D × D)} {xs : List D} (h : grS [] st hd = some xs) : st = [xs] := by
  unfold grS at h
  split at h
  · cases h; rfl
  · cases h
def pzT (as : List Addr) (st : List (List D)) : List (Addr × D) := as.zip (st.map D.lst)
/-- how it stands between two rows -/
structure GrI (rows xs rest : List D) (env : Cs) (ts : List (Addr × D)) (as : List Addr) (st : List (List D)) (hd : List (D × D)) (c3 c4 c5 c6 c7 c8 c9 : Cell) : Prop where
  env : env = [.frz (.lst rows), .own (.lst (as.reverse.map D.adr)), .own (.lst (hd.reverse.map fun p => .tup [p.1, p.2])), c3, c4, c5, c6, c7, c8, c9]
  ts : ts = pzT as st
  len : as.length = st.length
  go : grS rest st hd = some xs
  b1 : st.length + rest.length ≤ 100001
  b2 : hd.length + rest.length ≤ 100000
  b3 : ∀ x ∈ st, x.length + rest.length ≤ 100000
section
variable {c0 c1 c2 c3 c4 c5 c6 c7 c8 c9 : Cell}
theorem gr_test (w : Str) : gB (g2 (sEq2) (gV 5) (gC (.str "begin"))) [c0, c1, c2, c3, c4, .frz (.str w), c6, c7, c8, c9] = .ok (decide (w = "begin")) [c0, c1, c2, c3, c4, .frz (.str w), c6, c7, c8, c9] := by
  push_cast []
theorem gr_heads {hs : List D} {t n : D} (hz : hs.length + 1 ≤ 16777216) : sEx (gApp 2 (gSet (gTp (gaC (gSet (gV 6)) (gaC (gSet (gV 3)) (gaN)))))) [c0, c1, .own (.lst hs), .frz t, c4, c5, .frz n, c7, c8, c9] = .nx [c0, c1, .own (.lst (hs ++ [.tup [n, t]])), .frz t, c4, c5, .frz n, c7, c8, c9] := by
  push_cast [show sz (hs.length + 1) = true from decide_eq_true hz, show (2 : Nat) ≤ lineN by decide]
theorem gr_pop {ds : List D} {d : D} : sSet 7 (gPop 1) [c0, .own (.lst (ds ++ [d])), c2, c3, c4, c5, c6, c7, c8, c9] = .nx [c0, .own (.lst ds), c2, c3, c4, c5, c6, .frz d, c8, c9] := by
  rw [e_sSet, e_gNl, e_gPop rfl]
  rfl
theorem gr_popH {hs : List D} {a b : D} : sAsg (tTp (tCons' (tN 8) (tCons' (tN 9) (tNil')))) (gSet (gPop 2)) [c0, c1, .own (.lst (hs ++ [.tup [a, b]])), c3, c4, c5, c6, c7, c8, c9] = .nx [c0, c1, .own (.lst hs), c3, c4, c5, c6, c7, .frz a, .frz b] := by
  rw [e_sAsg, e_gSet, e_gPop rfl]
  rfl
theorem gr_last {ds : List D} {d : D} : g2 sIx (gV 1) (g1 sNeg (gC (.int 1))) [c0, .own (.lst (ds ++ [d])), c2, c3, c4, c5, c6, c7, c8, c9] = .ok (.frz d) [c0, .own (.lst (ds ++ [d])), c2, c3, c4, c5, c6, c7, c8, c9] := by
  have e : sIx (.lst (ds ++ [d])) (.int (-1)) = some (.f d) := by
    refine e_ixL ?_
    unfold L2.atI L2.ixN
    rw [if_neg (by decide), List.length_append, List.length_singleton, if_pos (by omega)]
    have e : (-1 + ((ds.length + 1 : Nat) : Int)).toNat = ds.length := by omega
    show (some _).bind _ = _
    rw [Option.bind_some, e]
    simp
  push_cast [e]
theorem gr_arg {a b t : D} {xs : List D} : gSet (gTp (gaC (gSet (gV 8)) (gaC (gSet (gV 9)) (gaC (gSet (gV 3)) (gaC (gSet (g1 sTupleOf (gV 7))) (gaN)))))) [c0, c1, c2, .frz t, c4, c5, c6, .own (.lst xs), .frz a, .frz b] = .ok (.tup [a, b, t, .tup xs]) [c0, c1, c2, .frz t, c4, c5, c6, .own (.lst xs), .frz a, .frz b] := by
  push_cast [show (4 : Nat) ≤ lineN by decide]
theorem gr_ret {xs : List D} : sRet (g1 sTupleOf (g2 sIx (gV 1) (gC (.int 0)))) [c0, .own (.lst [.lst xs]), c2, c3, c4, c5, c6, c7, c8, c9] = .rt (.f (.tup xs)) := by
  push_cast [sIx_lst0]
end
end DL

namespace DL
open PySem PySem.Spec PyProof.Rows L2
variable [TabCtx] {K : PySem.W.Frag} {X : Cx} {W : WN}
/-! ### what is only looked at may be looked at in another light -/
structure Vw (K : PySem.W.Frag) (env : Cs) (F : Hp) (σ : L2.St) (H : Hp) : Prop where
  fh : Same F H
  nf : NoTb F
  len : env.length = σ.length
  cells : ∀ (i : Nat) (c : Cell), env[i]? = some c → c = .un ∨ ∃ d v, c = .frz d ∧ σ[i]? = some (some v) ∧ Dv K F d v
theorem Vw.noOwn {env : Cs} {F H : Hp} {σ : L2.St} (V : Vw K env F σ H) {i : Nat} {d : D} (e : env[i]? = some (.own d)) : False := by
  rcases V.cells i _ e with z | ⟨_, _, z, _⟩ <;> cases z
theorem Vw.rs {env : Cs} {F H : Hp} {σ : L2.St} (V : Vw K env F σ H) (t : TabsH H) : Rs K H F [] env F σ H where
  fh := V.fh
  h0 := .refl _
  tb := t
  nf := V.nf
  f0 := .refl _
  nw := fun _ h => .inl h
  len := V.len
  cells := fun i c e => by
    rcases V.cells i c e with rfl | ⟨d, v, rfl, es, dv⟩
    · trivial
    · exact ⟨v, es, dv⟩
  dj := fun i j d d' a e => (V.noOwn e).elim
  tmp := fun p hp => by cases hp
  tnd := List.nodup_nil
  tdj := fun i d a e => (V.noOwn e).elim
section
variable {H0 F0 : Hp} {ts : List (Addr × D)} {env env' env'' : Cs} {F F' H : Hp} {σ : L2.St}
theorem Rs.viewed {H' : Hp} (R : Rs K H0 F0 ts env F σ H) (k : Kp H H') : Rs K H0 F0 ts env F σ H' :=
  R.ext ⟨k, id, .refl _, k.same R.fh R.nf, fun _ h => .inl h⟩
theorem view_t {e : Expr} {g : Cs → Out Bool} {b : Bool} {Q : Bool → Hp → Prop} (h : DT X W e g) (R : Rs X.K H0 F0 ts env F σ H) (V : Vw X.K env' F' σ H) (q : g env' = .ok b env'') (p : ∀ H', Rs X.K H0 F0 ts env F σ H' → Q b H') : tS X e σ H Q :=
  h H F' [] env' F' σ H Q (V.rs R.tb) (by rw [q]; exact fun F1 H1 R1 _ => p H1 (R.viewed R1.h0))
theorem view_ts {e : List Expr} {g : Cs → Out Bool} {b : Bool} {Q : Bool → Hp → Prop} (h : DTs X W e g) (R : Rs X.K H0 F0 ts env F σ H) (V : Vw X.K env' F' σ H) (q : g env' = .ok b env'') (p : ∀ H', Rs X.K H0 F0 ts env F σ H' → Q b H') : tsS X e σ H Q :=
  h H F' [] env' F' σ H Q (V.rs R.tb) (by rw [q]; exact fun F1 H1 R1 _ => p H1 (R.viewed R1.h0))
end
/-! ### a comprehension beside objects known by their places -/
theorem lc_ts {elt tg iter : Expr} {ifs : List Expr} {scope : Scope} {vs sl : List Nat} {gi : Cs → Out (List D)} {t : D → Cs → Option Cs}
    (hi : DI X W tg iter gi) (hsl : ∀ i ∈ sl, i ∈ vs)
    (hg : ∀ (s : Shared) (H : Hp) (C : Addr) (cl : List (Str × Addr)) (fp : List Addr), DG (X.blk s H scope (compEnvC scope cl C X.env) fp) tg sl t)
    {H0 F0 : Hp} {ts : List (Addr × D)} {env env1 : Cs} {F : Hp} {σ : L2.St} {H : Hp} {Q : VK} {ds : List D} (R : Rs X.K H0 F0 ts env F σ H) (q : gi env = .ok ds env1) (hf : freeAt env1 vs = true)
    (I : List D → List (Addr × D) → List D → Prop) (h0 : I ds ts [])
    (step : ∀ d rest ts acc, I (d :: rest) ts acc → ∃ env3, t d (wipeE env1 vs) = some env3 ∧ backE env1 env3 vs = env1 ∧ ∃ b : Bool,
      (∀ (s : Shared) (H' : Hp) (C : Addr) (cl : List (Str × Addr)) (fp : List Addr) (F1 : Hp) (L : Addr) (F : Hp) (σ : L2.St) (H : Hp) (Q : Bool → Hp → Prop), Rs X.K H0 F1 ((L, .lst acc) :: ts) env3 F σ H → (∀ F' H', Rs X.K H0 F1 ((L, .lst acc) :: ts) env3 F' σ H' → Same F F' → Q b H') → tsS (X.blk s H' scope (compEnvC scope cl C X.env) fp) ifs σ H Q) ∧
      (b = false → I rest ts acc) ∧
      (b = true → sz (acc.length + 1) = true ∧ ∀ (s : Shared) (H' : Hp) (C : Addr) (cl : List (Str × Addr)) (fp : List Addr) (F1 : Hp) (L : Addr) (F : Hp) (σ : L2.St) (H : Hp) (Q : VK), Rs X.K H0 F1 ((L, .lst acc) :: ts) env3 F σ H →
        (∀ w y ts' F' H', Rs X.K H0 F1 ((L, .lst acc) :: ts') env3 F' σ H' → Dv X.K F' y w → Same F F' → I rest ts' (acc ++ [y]) → Q w H') → eS (X.blk s H' scope (compEnvC scope cl C X.env) fp) elt σ H Q))
    (fin : ∀ L ts acc F H, I [] ts acc → Rs X.K H0 F0 ((L, .lst acc) :: ts) env1 F σ H → Q (.ref L) H) :
    tLc (iS X tg iter) (fun v σ H Q => ∀ (s : Shared) (H' : Hp) (C : Addr) (cl : List (Str × Addr)) (fp : List Addr), tgS (X.blk s H' scope (compEnvC scope cl C X.env) fp) tg v σ H Q)
      (fun σ H Q => ∀ (s : Shared) (H' : Hp) (C : Addr) (cl : List (Str × Addr)) (fp : List Addr), tsS (X.blk s H' scope (compEnvC scope cl C X.env) fp) ifs σ H Q)
      (fun σ H Q => ∀ (s : Shared) (H' : Hp) (C : Addr) (cl : List (Str × Addr)) (fp : List Addr), eS (X.blk s H' scope (compEnvC scope cl C X.env) fp) elt σ H Q) vs σ H Q := by
  refine hi H0 F0 ts env F σ H _ R ?_
  rw [q]
  intro J F1 H1 R1 s1 it L hL
  have R1' := (R1.push (d := .lst []) (Ext.tmp (o := .lst []) R1.fh hL) (.of hL) (R1.fh.free hL) ⟨[], upd_same, rfl⟩).from_
  refine ⟨fun i m H => i ≤ ds.length ∧ m = ds.length - i ∧ ∃ ts F acc, Rs X.K H0 F1 ((L, .lst acc) :: ts) env1 F σ H ∧ I (ds.drop i) ts acc,
    ⟨_, Nat.zero_le _, rfl, ts, F1, [], R1', by simpa using h0⟩, ?_⟩
  rintro i m H2 ⟨hi2, rfl, ts2, F2, acc, R2, i2⟩
  obtain ⟨go, stop⟩ := it F2 H2 R2.f0 R2.fh
  by_cases hlt : i < ds.length
  · refine .inr ⟨(go i ds[i] (List.getElem?_eq_getElem hlt)).1, fun H' => ∃ ts F acc, Rs X.K H0 F1 ((L, .lst acc) :: ts) env1 F σ H' ∧ I (ds.drop (i + 1)) ts acc,
      fun H' h => ⟨ds.length - (i + 1), by omega, hlt, rfl, h⟩, fun x H3 hy s' H' C cl fp => ?_⟩
    obtain ⟨F3, x3, dv⟩ := (go i ds[i] (List.getElem?_eq_getElem hlt)).2 x H3 hy
    rw [List.drop_eq_getElem_cons hlt] at i2
    obtain ⟨env3, q2, hbk, b, ht, hF, hT⟩ := step _ _ _ _ i2
    have R3 := R2.ext x3
    refine hg s' H' C cl fp H0 F1 _ (wipeE env1 vs) F3 (L2.wipe σ vs) H3 ds[i] x env3 _ (Rs.wipe R3 vs) dv q2 fun σ4 R4 o4 => ?_
    have out : ∀ j, j ∉ vs → σ4[j]? = σ[j]? := fun j m => (o4.2 j fun z => m (hsl j z)).trans (wipe_out m)
    have hl4 : σ4.length = σ.length := o4.1.trans (wipe_length σ vs)
    refine ⟨wipe_eq hl4 out, fun s2 H2' C2 cl2 fp2 => ht s2 H2' C2 cl2 fp2 F1 L F3 σ4 H3 _ R4 fun F5 H5 R5 s5 => ?_⟩
    cases b with
    | false =>
      rw [if_neg (by decide)]
      have := R3.unblock R5 s5 hl4 out hf
      rw [hbk] at this
      exact ⟨ts2, F5, acc, this, hF rfl⟩
    | true =>
      rw [if_pos rfl]
      obtain ⟨hz, he⟩ := hT rfl
      intro s6 H6' C6 cl6 fp6
      refine he s6 H6' C6 cl6 fp6 F1 L F5 σ4 H5 _ R5 fun w y ts' F6 H6 R6 dw s6 iq => ?_
      obtain ⟨⟨ws, hw, tw⟩, _⟩ := R6.tmp (L, .lst acc) List.mem_cons_self
      refine ⟨ws, hw, by rw [tw.length]; exact sz_lt hz, ts', F6, acc ++ [y], ?_, iq⟩
      have R7 := R3.unblock R6 (s5.trans s6) hl4 out hf
      rw [hbk] at R7
      exact R7.writeT ⟨_, upd_same, tw.app ⟨w, [], rfl, dw, rfl⟩⟩
  · have e : i = ds.length := by omega
    subst e
    rw [List.drop_length] at i2
    exact .inl ⟨stop, fin L ts2 acc F2 H2 i2 (R1.back R2)⟩
/-- y = [..] on one line -/
theorem ts_setLc (i : Nat) {y : Str} {py spos : Pos} {elt tg iter : Expr} {ifs : List Expr} {scope : Scope} {own : List (Str × Nat)} {pos : Pos} {sl : List Nat} {gi : Cs → Out (List D)} {t : D → Cs → Option Cs} (hc : X.calm = true) (hN : X.N.Nodup) (hy : X.N[i]? = some y) (hyl : X.env.scope.names.lookup y = some .local)
    (hsw : swapsWith (.ListComp elt [⟨tg, iter, ifs, 0⟩] scope pos) (some (.Name y py)) spos.line X.env = pure true) (ok : BlkOk X.N X.env.scope scope own) (hi : DI X W tg iter gi) (hsl : ∀ i ∈ sl, i ∈ own.map (·.2))
    (hg : ∀ (s : Shared) (H : Hp) (C : Addr) (cl : List (Str × Addr)) (fp : List Addr), DG (X.blk s H scope (compEnvC scope cl C X.env) fp) tg sl t)
    {H0 F0 : Hp} {ts : List (Addr × D)} {env env1 : Cs} {F : Hp} {σ : L2.St} {H : Hp} {Z : Ends} {ds : List D} (R : Rs X.K H0 F0 ts env F σ H) (q : gi env = .ok ds env1) (hf : freeAt env1 (own.map (·.2)) = true)
    (I : List D → List (Addr × D) → List D → Prop) (h0 : I ds ts [])
    (step : ∀ d rest ts acc, I (d :: rest) ts acc → ∃ env3, t d (wipeE env1 (own.map (·.2))) = some env3 ∧ backE env1 env3 (own.map (·.2)) = env1 ∧ ∃ b : Bool,
      (∀ (s : Shared) (H' : Hp) (C : Addr) (cl : List (Str × Addr)) (fp : List Addr) (F1 : Hp) (L : Addr) (F : Hp) (σ : L2.St) (H : Hp) (Q : Bool → Hp → Prop), Rs X.K H0 F1 ((L, .lst acc) :: ts) env3 F σ H → (∀ F' H', Rs X.K H0 F1 ((L, .lst acc) :: ts) env3 F' σ H' → Same F F' → Q b H') → tsS (X.blk s H' scope (compEnvC scope cl C X.env) fp) ifs σ H Q) ∧
      (b = false → I rest ts acc) ∧
      (b = true → sz (acc.length + 1) = true ∧ ∀ (s : Shared) (H' : Hp) (C : Addr) (cl : List (Str × Addr)) (fp : List Addr) (F1 : Hp) (L : Addr) (F : Hp) (σ : L2.St) (H : Hp) (Q : VK), Rs X.K H0 F1 ((L, .lst acc) :: ts) env3 F σ H →
        (∀ w y ts' F' H', Rs X.K H0 F1 ((L, .lst acc) :: ts') env3 F' σ H' → Dv X.K F' y w → Same F F' → I rest ts' (acc ++ [y]) → Q w H') → eS (X.blk s H' scope (compEnvC scope cl C X.env) fp) elt σ H Q))
    (fin : ∀ ts acc F σ' H, I [] ts acc → Rs X.K H0 F0 ts (env1.set i (.own (.lst acc))) F σ' H → Z.nx σ' H) (hs : ∀ x, foldedSetIterable iter X.env x = pure x := by intro _; rfl) :
    sS X (.Assign [.Name y py] (.ListComp elt [⟨tg, iter, ifs, 0⟩] scope pos) spos) Z σ H := by
  refine PS.sem (ps_setLc (i := i) (own := own) hc hN hy hyl hsw pi_sem ok (fun s H C cl fp => ?_) (fun s H C cl fp => ?_) (fun s H C cl fp => ?_) hs)
    (lc_ts hi hsl hg R q hf I h0 step fun L ts' acc F' H' iq R' => fin ts' acc F' _ H' iq (R'.storeOwn i))
  · exact ⟨fun pins s1 σ H1 v u Q I r h => (h s H C cl fp).out pins s1 u I r⟩
  · exact ⟨fun pins s1 σ H1 Q I h => (h s H C cl fp).out pins s1 I⟩
  · exact ⟨fun pins s1 σ H1 Q I h => (h s H C cl fp).out pins s1 I⟩
/-! deeds on objects known by their places -/
theorem ts_pop0 {E : Expr} {gE : Cs → Out RV} {apos cpos p0 : Pos} {j0 : Nat} (hE : DE X W E gE) {H0 F0 : Hp} {ts : List (Addr × D)} {env env1 : Cs} {F H : Hp} {σ : L2.St} {Q : VK} {a : Addr} {xs : List D} {d : D} (R : Rs X.K H0 F0 ((a, .lst (d :: xs)) :: ts) env F σ H) (q1 : gE env = .ok (.frz (.adr a)) env1)
    (p : ∀ w F' H', Rs X.K H0 F0 ((a, .lst xs) :: ts) env1 F' σ H' → Dv X.K F' d w → Q w H')
    (hbase : attributeBase E "pop" X.env (eval E X.env) = eval E X.env := by rfl)
    (hfew : ((backTo cpos (starEach [.Constant (.int 0) j0 p0] X.env)).all (fun x => !x.1) && (backToKw cpos (keywordEach [] X.env)).all (fun x => x.1.isSome) && decide (([.Constant (.int 0) j0 p0] : List Expr).length + ([] : List Keyword).length + (if ([] : List Keyword).isEmpty then 0 else 1) < 30)) = true := by rfl)
    (hline : (apos.endLine == cpos.line) = true := by rfl) (hs : starEach [.Constant (.int 0) j0 p0] X.env = (false, eval (.Constant (.int 0) j0 p0) X.env) :: starEach [] X.env := by rfl) : eS X (.Call (.Attribute E "pop" apos) [.Constant (.int 0) j0 p0] [] cpos) σ H Q := by
  refine PE.sem (pe_bm PySem.F.plainAttrs_list PySem.F.slot_list_pop PySem.F.type_list_pop mt_popAt pe_sem (pa_cons pe_int pa_nil hs) hbase hfew hline hs) (hE H0 F0 _ env F σ H _ R ?_)
  rw [q1]
  intro v F1 H1 R1 h1 s1
  have h1 : v = .ref a := h1
  subst h1
  obtain ⟨⟨vs0, e0, w, r, rfl, dw, t1⟩, _, _⟩ := R1.tmp (a, .lst (d :: xs)) List.mem_cons_self
  refine ⟨.inl ⟨rfl, _, SqL.of e0⟩, ?_⟩
  refine ⟨a, w :: r, 0, 0, w, rfl, rfl, e0, by decide, by decide, ?_, rfl, ?_⟩
  · simp [seqIndex?]
  · exact p w F1 _ (R1.writeT ⟨_, upd_same, t1⟩) dw
/-- x.append(e), e told of by hand -/
theorem ts_appE (i : Nat) {x : Str} {e : Expr} {px apos cpos : Pos} (hi : X.N[i]? = some x) (hx : Vis X.env.scope x) {H0 F0 : Hp} {ts ts' : List (Addr × D)} {env env' : Cs} {F H : Hp} {σ : L2.St} {Q : VK} {ds : List D} {d : D} (R : Rs X.K H0 F0 ts env F σ H) (q : env[i]? = some (.own (.lst ds))) (q' : env'[i]? = some (.own (.lst ds))) (hz : sz (ds.length + 1) = true)
    (he : ∀ Q' : VK, (∀ w F' H', Rs X.K H0 F0 ts' env' F' σ H' → Dv X.K F' d w → Q' w H') → eS X e σ H Q')
    (p : ∀ F' H', Rs X.K H0 F0 ts' (env'.set i (.own (.lst (ds ++ [d])))) F' σ H' → Q .non H')
    (hbase : attributeBase (.Name x px) "append" X.env (eval (.Name x px) X.env) = eval (.Name x px) X.env := by rfl)
    (hfew : ((backTo cpos (starEach [e] X.env)).all (fun x => !x.1) && (backToKw cpos (keywordEach [] X.env)).all (fun x => x.1.isSome) && decide (([e] : List Expr).length + ([] : List Keyword).length + (if ([] : List Keyword).isEmpty then 0 else 1) < 30)) = true := by rfl)
    (hline : (apos.endLine == cpos.line) = true := by rfl) (hs : starEach [e] X.env = (false, eval e X.env) :: starEach [] X.env := by rfl)
    (hd : (x == ("__debug__" : Str)) = false := by decide) (hcd : (x == ("__classdict__" : Str)) = false := by decide) : eS X (.Call (.Attribute (.Name x px) "append" apos) [e] [] cpos) σ H Q := by
  refine PE.sem (pe_bm (t := tCons (eS X e) tNil) PySem.F.plainAttrs_list PySem.F.slot_list_append PySem.F.type_list_append mt_append (pe_var hi hx hd hcd) (pa_cons pe_sem pa_nil hs) hbase hfew hline hs) ?_
  obtain ⟨b, eb, ⟨vs0, e0, _⟩, _⟩ := R.cells i _ q
  refine ⟨.ref b, eb, .inl ⟨rfl, _, SqL.of e0⟩, he _ fun w F1 H1 R1 dw => ?_⟩
  obtain ⟨b', eb', ⟨vs, e2, t2⟩, nf, n0⟩ := R1.cells i _ q'
  rw [eb] at eb'
  cases eb'
  exact ⟨b, vs, w, rfl, rfl, e2, by rw [t2.length]; exact sz_lt hz, p F1 _ (R1.write q' eb ⟨_, upd_same, t2.app ⟨w, [], rfl, dw, rfl⟩⟩)⟩
end DL

namespace DL
open PySem PySem.Spec PyProof.Rows L2
variable [TabCtx]
local macro_rules | `(tactic| walk_at "ev") => `(tactic| simp only [notIn2_s, notIn2_i, in2_s, in2_i, rev2_l, rev2_t, list2_l, list2_t, list2_k, list2_T, itK_dT, vG_T, vG2_T, vU2_T, notIn2_d, wipe_n, wipe_c, e_runF, lp_nx, lp_ct, lp_rt, tgt_some, for_cons, for_nil, e_tN, e_tTp, e_tCons, e_tNil, Option.bind_some, fin_rt, fin_nx, fin_exc, wp_nx, wp_ct, wp_rt, ↓bind_X, ↓bs_X, ↓seq_X, ↓lp_X, ↓tgt_X, bindX_ok, bindX_exc, bsX_ok, bsX_exc, seq_nx, seq_rt, seq_exc, seq_ct, seq_bk, e_sSeq, e_sNx, e_sCt, e_sBk, e_gNl, nlK_frz, nlK_tmp, settle_frz, settle_tmp, e_gSet, val_frz, val_tmp, e_gPk, e_gC, e_gB, bK_bl, e_gNot, e_gAnd, e_gOr, e_gAndV, e_gOrV, e_gNotV, e_gIf, e_sIf, e_g1, e_g2, outR_f, outR_t, e_gCh, chK_int, chK2_int, orK_ret, orK_exc, e_gCall, e_gaN, e_gaC, e_gTp, e_gLs, e_gDn, e_sSet, e_sEx, e_sRet, ret_frz, ret_tmp, cell_frz, cell_tmp, e_sPar2, e_sPar3, e_sFor, e_gLc, e_giA, itK_lst, itK_tup, itK_dK, itK_str, e_giR1, r1K_int, e_giR2, r2K_int, e_giE, enK_lst, e_giET, etK_t, ln_0, ln_1, ln_2, ln_3, ln_4, ln_5, ln_6, ln_7, ln_8, e_giZ, zipK_l, zipK_t, e_gLR, lrK_i, e_sRs, e_gDisp, e_gpN, e_gpC, gpK_i, gpK_s, e_int, e_intB, e_sPut, e_sAsg, e_gYes, e_sWhile, v_asg, v_pop, vPo_o, v_pop0, vP0_o,  e_goN, e_goS, goK_int, e_gSl, v_gV, vV_f, vV_o, v_set, vS_o, v_nl, v_val, vL_o, v_pk, vP_s, v_k1, v1_s, v_k2, v2_s, v_ret, vR_o, v_app, vA_o, v_appK, vA2_o, v_ext, vE_o, v_extK, vE2_o, vE2_t, v_get, vG_K, v_getK, vG2_i, vG2_t, v_put1, vU_o, v_put2, vU2_i, vU2_t, v_sl, vC_l, vC_t, v_noE, nE_ok, e_add, e_sub, e_neg, e_cmp, e_ltI, eq2_i, eq2_s, eq2_l, eq2_t, eq2_b, eq2_n, eq2_c, ne2_i, ne2_s, ne2_l, ne2_t, ne2_b, ne2_n, ne2_c, sort2_l, sort2_k, e_eqI, e_neI, e_eqS, e_neS, e_ix0, e_ix1, e_ix2, e_ix3, e_lenL, e_lenT, e_lenC, e_lenK, e_max2, e_min2, e_tupL, e_lstT, e_lstL, e_revL, isi_int_int, isi_bool_int, isi_str_str, isi_tup, isi_lst, isi_dict, List.getElem?_cons_zero, List.getElem?_cons_succ, List.set_cons_zero, List.set_cons_succ, List.map_cons, List.map_nil, List.cons_append, List.nil_append, List.length_cons, List.length_nil, List.replicate_succ, List.replicate_zero, Nat.reduceAdd, Nat.reduceSub, Nat.reduceEqDiff, ↓reduceIte, Bool.not_true, Bool.not_false, fLe, fLt, fGe, fGt, Bool.false_eq_true, Nat.reduceLeDiff, Int.ofNat_eq_coe, Int.cast_ofNat_Int, decide_true, decide_false])
local macro_rules | `(tactic| push_cast [$ls,*]) => `(tactic| simp only [notIn2_s, notIn2_i, in2_s, in2_i, rev2_l, rev2_t, list2_l, list2_t, list2_k, list2_T, itK_dT, vG_T, vG2_T, vU2_T, notIn2_d, wipe_n, wipe_c, e_runF, lp_nx, lp_ct, lp_rt, tgt_some, for_cons, for_nil, e_tN, e_tTp, e_tCons, e_tNil, Option.bind_some, fin_rt, fin_nx, fin_exc, wp_nx, wp_ct, wp_rt, ↓bind_X, ↓bs_X, ↓seq_X, ↓lp_X, ↓tgt_X, bindX_ok, bindX_exc, bsX_ok, bsX_exc, seq_nx, seq_rt, seq_exc, seq_ct, seq_bk, e_sSeq, e_sNx, e_sCt, e_sBk, e_gNl, nlK_frz, nlK_tmp, settle_frz, settle_tmp, e_gSet, val_frz, val_tmp, e_gPk, e_gC, e_gB, bK_bl, e_gNot, e_gAnd, e_gOr, e_gAndV, e_gOrV, e_gNotV, e_gIf, e_sIf, e_g1, e_g2, outR_f, outR_t, e_gCh, chK_int, chK2_int, orK_ret, orK_exc, e_gCall, e_gaN, e_gaC, e_gTp, e_gLs, e_gDn, e_sSet, e_sEx, e_sRet, ret_frz, ret_tmp, cell_frz, cell_tmp, e_sPar2, e_sPar3, e_sFor, e_gLc, e_giA, itK_lst, itK_tup, itK_dK, itK_str, e_giR1, r1K_int, e_giR2, r2K_int, e_giE, enK_lst, e_giET, etK_t, ln_0, ln_1, ln_2, ln_3, ln_4, ln_5, ln_6, ln_7, ln_8, e_giZ, zipK_l, zipK_t, e_gLR, lrK_i, e_sRs, e_gDisp, e_gpN, e_gpC, gpK_i, gpK_s, e_int, e_intB, e_sPut, e_sAsg, e_gYes, e_sWhile, v_asg, v_pop, vPo_o, v_pop0, vP0_o,  e_goN, e_goS, goK_int, e_gSl, v_gV, vV_f, vV_o, v_set, vS_o, v_nl, v_val, vL_o, v_pk, vP_s, v_k1, v1_s, v_k2, v2_s, v_ret, vR_o, v_app, vA_o, v_appK, vA2_o, v_ext, vE_o, v_extK, vE2_o, vE2_t, v_get, vG_K, v_getK, vG2_i, vG2_t, v_put1, vU_o, v_put2, vU2_i, vU2_t, v_sl, vC_l, vC_t, v_noE, nE_ok, e_add, e_sub, e_neg, e_cmp, e_ltI, eq2_i, eq2_s, eq2_l, eq2_t, eq2_b, eq2_n, eq2_c, ne2_i, ne2_s, ne2_l, ne2_t, ne2_b, ne2_n, ne2_c, sort2_l, sort2_k, e_eqI, e_neI, e_eqS, e_neS, e_ix0, e_ix1, e_ix2, e_ix3, e_lenL, e_lenT, e_lenC, e_lenK, e_max2, e_min2, e_tupL, e_lstT, e_lstL, e_revL, isi_int_int, isi_bool_int, isi_str_str, isi_tup, isi_lst, isi_dict, List.getElem?_cons_zero, List.getElem?_cons_succ, List.set_cons_zero, List.set_cons_succ, List.map_cons, List.map_nil, List.cons_append, List.nil_append, List.length_cons, List.length_nil, List.replicate_succ, List.replicate_zero, Nat.reduceAdd, Nat.reduceSub, Nat.reduceEqDiff, ↓reduceIte, Bool.not_true, Bool.not_false, fLe, fLt, fGe, fGt, Bool.false_eq_true, Nat.reduceLeDiff, Int.ofNat_eq_coe, Int.cast_ofNat_Int, decide_true, decide_false, $ls,*])
/-! ### several lists, from which the first thing is taken, now here, now there -/
section
variable {K : PySem.W.Frag} {H0 F0 : Hp} {ts : List (Addr × D)} {env : Cs} {F H : Hp} {σ : L2.St}
/-- the objects of ts, looked at as if they were fixed -/
theorem Rs.lookF (R : Rs K H0 F0 ts env F σ H) : Same F (inT ts H F) ∧ Same (inT ts H F) H ∧ NoTb (inT ts H F) := by
  refine ⟨fun b o e => ?_, fun b o e => ?_, fun b ps e => ?_⟩
  · by_cases hb : b ∈ ts.map (·.1)
    · obtain ⟨p, hp, rfl⟩ := List.mem_map.mp hb
      have := (R.tmp p hp).2.1
      rw [this] at e
      cases e
    · rw [inT_out hb]; exact e
  · by_cases hb : b ∈ ts.map (·.1)
    · rw [inT_in hb] at e; exact e
    · rw [inT_out hb] at e; exact R.fh b o e
  · by_cases hb : b ∈ ts.map (·.1)
    · rw [inT_in hb] at e
      obtain ⟨o, ho, _, nb⟩ := R.tsObj hb
      rw [ho] at e
      exact nb ps (Option.some.inj e)
    · rw [inT_out hb] at e; exact R.nf b ps e
theorem Rs.lookL (R : Rs K H0 F0 ts env F σ H) {a : Addr} {xs : List D} (m : (a, .lst xs) ∈ ts) : Dv K (inT ts H F) (.lst xs) (.ref a) := by
  obtain ⟨⟨vs, e, t⟩, _, _⟩ := R.tmp _ m
  exact ⟨a, vs, rfl, by rw [inT_in (List.mem_map.mpr ⟨_, m, rfl⟩)]; exact e, t.mono R.lookF.1⟩
theorem Rs.vw (R : Rs K H0 F0 ts env F σ H) {i : Nat} {d : D} {v : V} (hs : σ[i]? = some (some v)) (dv : Dv K (inT ts H F) d v) : Vw K ((List.replicate env.length Cell.un).set i (.frz d)) (inT ts H F) σ H where
  fh := R.lookF.2.1
  nf := R.lookF.2.2
  len := by rw [List.length_set, List.length_replicate, R.len]
  cells := fun j c e => by
    rcases get_set e with ⟨rfl, rfl, _⟩ | ⟨_, e⟩
    · exact .inr ⟨d, v, rfl, hs, dv⟩
    · rw [List.getElem?_replicate] at e
      split at e
      · exact .inl (Option.some.inj e).symm
      · cases e
theorem Rs.giveLoc {i : Nat} {xs : List D} (R : Rs K H0 F0 ts env F σ H) (hi : env[i]? = some (.own (.lst xs))) : ∃ F', Rs K H0 F0 ts (env.set i (.frz (.lst xs))) F' σ H := by
  obtain ⟨a, e1, ⟨vs, e, t⟩, nf, _⟩ := R.cells i _ hi
  have dv : Dv K (upd F a (.lst vs)) (.lst xs) (.ref a) := ⟨a, vs, rfl, upd_same, t.mono (Same.upd nf)⟩
  have := R.giveVar hi e1 (.lst vs) dv
  rw [upd_id e] at this
  exact ⟨_, this⟩
theorem Rs.drop_ (R : Rs K H0 F0 ts env F σ H) : Rs K H0 F0 [] env F σ H := by
  induction ts with
  | nil => exact R
  | cons p ts ih => exact ih R.pop
end
def pz (as : List Addr) (ls : List (List D)) : List (Addr × D) := as.zip (ls.map D.lst)
def bsOf : List Addr → List (List D) → List Addr
  | _ :: as, [] :: ls => bsOf as ls
  | a :: as, (_ :: _) :: ls => a :: bsOf as ls
  | _, _ => []
def full (l : List D) : Bool := !l.isEmpty
/-- at the k-th of the lists that are not empty the first thing is taken -/
def mixPop : Nat → List (List D) → Option (D × List (List D))
  | _, [] => none
  | k, [] :: ls => (mixPop k ls).map fun p => (p.1, [] :: p.2)
  | 0, (d :: l) :: ls => some (d, l :: ls)
  | k + 1, (d :: l) :: ls => (mixPop k ls).map fun p => (p.1, (d :: l) :: p.2)
/-- that a list is not [] is told so -/
def neNil (l : List D) : Bool := match sNe (.lst l) (.lst []) with
  | some (.f (.bl b)) => b == full l
  | _ => false
theorem neNil_ok {l : List D} (h : neNil l = true) : sNe (.lst l) (.lst []) = some (.f (.bl (full l))) := by
  unfold neNil at h
  split at h
  · rename_i b q
    rw [q, beq_iff_eq.mp h]
  · cases h
theorem neNil_of {l : List D} (h : Lay 60 (.lst l)) : neNil l = true := by
  unfold neNil
  rw [sNe_nilL h]
  exact beq_self_eq_true _
def mixFine (ls : List (List D)) : Bool := decide (ls.length ≤ 1000) && ls.all neNil && neNil ((ls.filter full).map D.lst)
def mixGo (dr : List D → OR) (more : D) : Nat → List (List D) → Nat → List D → Option (List D)
  | 0, _, _, _ => none
  | n + 1, ls, turn, found => if mixFine ls = true then
      if (ls.filter full).isEmpty = true then some found else match dr [more, .int turn] with
        | .ret (.f (.int r)) => match mixPop (r / 8 % ((ls.filter full).length : Int)).toNat ls with
          | some p => mixGo dr more n p.2 (turn + 1) (found ++ [p.1])
          | none => none
        | _ => none
    else none
def mixRows (ln : List D → OR) (td : D) : List D → Option (List (List D))
  | [] => some []
  | h :: hs => match sIx td h with
    | some (.f c) => match ln [h, c] with
      | .ret (.t (.lst l)) => match mixRows ln td hs with
        | some ls => some (l :: ls)
        | none => none
      | _ => none
    | _ => none
def semMix (ln dr : List D → OR) : List D → OR
  | [td, more] => match sSort2 td with
    | some (.t (.lst hs)) => match mixRows ln td hs with
      | some ls => if ls.length ≤ 1000 then match mixGo dr more 4096 ls 0 [] with
        | some r => .ret (.t (.lst r))
        | none => .stuck
        else .stuck
      | none => .stuck
    | _ => .stuck
  | _ => .stuck
theorem mix_nx (ln dr : List D → OR) (ds : List D) (c : Str) : semMix ln dr ds ≠ .exc c := by
  intro z
  unfold semMix at z
  repeat (first | (split at z) | cases z)
theorem mix_ok {ln dr : List D → OR} {ds : List D} {r : Rn} (h : semMix ln dr ds = .ret r) : ∃ td more hs ls xs, ds = [td, more] ∧ sSort2 td = some (.t (.lst hs)) ∧ mixRows ln td hs = some ls ∧ ls.length ≤ 1000 ∧ mixGo dr more 4096 ls 0 [] = some xs ∧ r = .t (.lst xs) := by
  unfold semMix at h
  split at h
  · rename_i td more
    split at h
    · rename_i hs e1
      split at h
      · rename_i ls e2
        split at h
        · rename_i e3
          split at h
          · rename_i xs e4
            cases h
            exact ⟨td, more, hs, ls, xs, rfl, e1, e2, e3, e4, rfl⟩
          · cases h
        · cases h
      · cases h
    · cases h
  · cases h
theorem mixRows_cons {ln : List D → OR} {td h : D} {hs : List D} {ls : List (List D)} (e : mixRows ln td (h :: hs) = some ls) : ∃ c l ls', sIx td h = some (.f c) ∧ ln [h, c] = .ret (.t (.lst l)) ∧ mixRows ln td hs = some ls' ∧ ls = l :: ls' := by
  unfold mixRows at e
  split at e
  · rename_i c e1
    split at e
    · rename_i l e2
      split at e
      · rename_i ls' e3
        cases e
        exact ⟨c, l, ls', e1, e2, e3, rfl⟩
      · cases e
    · cases e
  · cases e
theorem mixGo_step {dr : List D → OR} {more : D} {n : Nat} {ls : List (List D)} {turn : Nat} {found xs : List D} (e : mixGo dr more (n + 1) ls turn found = some xs) : mixFine ls = true ∧ (((ls.filter full).isEmpty = true ∧ found = xs) ∨ ((ls.filter full).isEmpty = false ∧ ∃ r d ls', dr [more, .int turn] = .ret (.f (.int r)) ∧ mixPop (r / 8 % ((ls.filter full).length : Int)).toNat ls = some (d, ls') ∧ mixGo dr more n ls' (turn + 1) (found ++ [d]) = some xs)) := by
  unfold mixGo at e
  split at e
  · rename_i h1
    refine ⟨h1, ?_⟩
    split at e
    · rename_i h2
      cases e
      exact .inl ⟨h2, rfl⟩
    · rename_i h2
      split at e
      · rename_i r e1
        split at e
        · rename_i p e2
          exact .inr ⟨by simpa using h2, r, p.1, p.2, e1, e2, e⟩
        · cases e
      · cases e
  · cases e
theorem bs_length : ∀ (as : List Addr) (ls : List (List D)), as.length = ls.length → (bsOf as ls).length = (ls.filter full).length
  | [], [], _ => rfl
  | a :: as, [] :: ls, h => by
    rw [bsOf, List.filter_cons_of_neg (by decide)]
    exact bs_length as ls (by simpa using h)
  | a :: as, (d :: l) :: ls, h => by
    rw [bsOf, List.filter_cons_of_pos (by rfl), List.length_cons, List.length_cons, bs_length as ls (by simpa using h)]
theorem mix_pop : ∀ (as : List Addr) (ls : List (List D)) (k : Nat) (d : D) (ls' : List (List D)), as.length = ls.length → mixPop k ls = some (d, ls') → ∃ b l rest, (bsOf as ls)[k]? = some b ∧ (pz as ls).Perm ((b, .lst (d :: l)) :: rest) ∧ (pz as ls').Perm ((b, .lst l) :: rest) ∧ ls'.length = ls.length
  | [], [], _, _, _, _, h => by cases h
  | a :: as, [] :: ls, k, d, ls', hl, h => by
    rw [mixPop] at h
    cases q : mixPop k ls with
    | none => rw [q] at h; cases h
    | some p =>
      rw [q] at h
      cases h
      obtain ⟨b, l, rest, e1, e2, e3, e4⟩ := mix_pop as ls k p.1 p.2 (by simpa using hl) q
      refine ⟨b, l, (a, .lst []) :: rest, by rw [bsOf]; exact e1, ?_, ?_, by rw [List.length_cons, List.length_cons, e4]⟩
      · exact (List.Perm.cons _ e2).trans (List.Perm.swap _ _ _)
      · exact (List.Perm.cons _ e3).trans (List.Perm.swap _ _ _)
  | a :: as, (x :: l) :: ls, 0, d, ls', hl, h => by
    rw [mixPop] at h
    cases h
    exact ⟨a, l, pz as ls, by rw [bsOf]; rfl, List.Perm.refl _, List.Perm.refl _, rfl⟩
  | a :: as, (x :: l) :: ls, k + 1, d, ls', hl, h => by
    rw [mixPop] at h
    cases q : mixPop k ls with
    | none => rw [q] at h; cases h
    | some p =>
      rw [q] at h
      cases h
      obtain ⟨b, l', rest, e1, e2, e3, e4⟩ := mix_pop as ls k p.1 p.2 (by simpa using hl) q
      refine ⟨b, l', (a, .lst (x :: l)) :: rest, by rw [bsOf, List.getElem?_cons_succ]; exact e1, ?_, ?_, by rw [List.length_cons, List.length_cons, e4]⟩
      · exact (List.Perm.cons _ e2).trans (List.Perm.swap _ _ _)
      · exact (List.Perm.cons _ e3).trans (List.Perm.swap _ _ _)
theorem pz_app {as bs : List Addr} {ls ms : List (List D)} (h : as.length = ls.length) : pz (as ++ bs) (ls ++ ms) = pz as ls ++ pz bs ms := by
  unfold pz
  rw [List.map_append, List.zip_append (by rw [List.length_map, h])]
theorem bs_app : ∀ {as bs : List Addr} {ls ms : List (List D)}, as.length = ls.length → bsOf (as ++ bs) (ls ++ ms) = bsOf as ls ++ bsOf bs ms
  | [], _, [], _, _ => rfl
  | a :: as, bs, [] :: ls, ms, h => by
    rw [List.cons_append, List.cons_append, bsOf, bsOf]
    exact bs_app (by simpa using h)
  | a :: as, bs, (d :: l) :: ls, ms, h => by
    rw [List.cons_append, List.cons_append, bsOf, bsOf, List.cons_append, bs_app (by simpa using h)]
/-! the readings -/
theorem mix_t1 {l : List D} (h : neNil l = true) : gB (g2 (sNe2) (gV 7) (gLs (gaN))) [.un, .un, .un, .un, .un, .un, .un, .frz (.lst l)] = .ok (full l) [.un, .un, .un, .un, .un, .un, .un, .frz (.lst l)] := by
  push_cast [neNil_ok h, show (0 : Nat) ≤ lineN from Nat.zero_le _]
theorem mix_t1' {l : List D} {d : D} (h : neNil l = true) : gB (g2 (sNe2) (gV 7) (gLs (gaN))) [.un, .un, .frz d, .un, .un, .un, .un, .frz (.lst l)] = .ok (full l) [.un, .un, .frz d, .un, .un, .un, .un, .frz (.lst l)] := by
  push_cast [neNil_ok h, show (0 : Nat) ≤ lineN from Nat.zero_le _]
theorem fullMap (ls : List (List D)) : (ls.filterMap fun l => if full l = true then some (D.lst l) else none) = (ls.filter full).map D.lst := by
  induction ls with
  | nil => rfl
  | cons l ls ih =>
    rw [List.filterMap_cons, List.filter_cons]
    cases q : full l with
    | true => rw [if_pos rfl, if_pos rfl, List.map_cons]; dsimp only; rw [ih]
    | false => rw [if_neg (by decide), if_neg (by decide)]; exact ih
theorem mix_t2 {ls : List (List D)} (h : mixFine ls = true) : ∃ env', gB (g2 (sNe2) (gLc [7] (giA (gV 2)) (tN 7) (noE (gB (g2 (sNe2) (gV 7) (gLs (gaN))))) (noE (gSet (gV 7)))) (gLs (gaN))) [.un, .un, .frz (.lst (ls.map D.lst)), .un, .un, .un, .un, .un] = .ok (!(ls.filter full).isEmpty) env' := by
  unfold mixFine at h
  rw [Bool.and_eq_true, Bool.and_eq_true] at h
  obtain ⟨⟨h1, h2⟩, h3⟩ := h
  have h1 := of_decide_eq_true h1
  have e : gLc [7] (giA (gV 2)) (tN 7) (noE (gB (g2 (sNe2) (gV 7) (gLs (gaN))))) (noE (gSet (gV 7))) [.un, .un, .frz (.lst (ls.map D.lst)), .un, .un, .un, .un, .un] = .ok (.tmp (.lst ((ls.filter full).map D.lst))) [.un, .un, .frz (.lst (ls.map D.lst)), .un, .un, .un, .un, .un] := by
    show lcL _ _ _ _ (ls.map D.lst) _ [] = _
    rw [lcL_map D.lst (fun l => if full l = true then some (D.lst l) else none) rfl ls (fun l hl => ?_) [] (by rw [List.length_nil]; omega), List.nil_append, fullMap]
    refine ⟨[.un, .un, .frz (.lst (ls.map D.lst)), .un, .un, .un, .un, .frz (.lst l)], [.un, .un, .frz (.lst (ls.map D.lst)), .un, .un, .un, .un, .frz (.lst l)], rfl, ?_, ?_⟩
    · unfold noE
      rw [mix_t1' (List.all_eq_true.mp h2 l hl)]
      cases full l <;> rfl
    · cases q : full l with
      | true => rw [if_pos rfl]; exact ⟨_, rfl, rfl⟩
      | false => rw [if_neg (by decide)]; rfl
  refine ⟨[.un, .un, .frz (.lst (ls.map D.lst)), .un, .un, .un, .un, .un], ?_⟩
  rw [e_gB, e_g2, e]
  push_cast [neNil_ok h3, show (0 : Nat) ≤ lineN from Nat.zero_le _]
  unfold full
  rw [List.isEmpty_map]
theorem mix_ix {dr : List D → OR} {td more : D} {c2 c3 c6 c7 : Cell} {turn : Nat} {r : Int} {bs : List Addr} {b : Addr} (hd : dr [more, .int turn] = .ret (.f (.int r))) (hb : bs[(r / 8 % (bs.length : Int)).toNat]? = some b) :
    g2 sIx (gV 5) (g2 sMod (g2 sFdiv (gCall dr 2 (gaC (gSet (gV 1)) (gaC (gSet (gV 4)) (gaN)))) (gC (.int 8))) (g1 sLen (gV 5))) [.frz td, .frz more, c2, c3, .frz (.int turn), .own (.lst (bs.map D.adr)), c6, c7] = .ok (.frz (.adr b)) [.frz td, .frz more, c2, c3, .frz (.int turn), .own (.lst (bs.map D.adr)), c6, c7] := by
  have h0 : (0 : Int) < bs.length := by
    rcases Nat.eq_zero_or_pos bs.length with h | h
    · rw [List.eq_nil_of_length_eq_zero h] at hb; cases hb
    · exact_mod_cast h
  have e1 : sFdiv (.int r) (.int 8) = some (.f (.int (r / 8))) := by unfold sFdiv; dsimp only; rw [if_pos (show (0 : Int) < 8 ∧ (8 : Int).natAbs < 2 ^ 300 from ⟨by decide, by decide +kernel⟩)]
  have e2 : sMod (.int (r / 8)) (.int ((bs.map D.adr).length : Nat)) = some (.f (.int (r / 8 % (bs.length : Int)))) := by rw [List.length_map]; exact if_pos h0
  have p0 := Int.emod_nonneg (r / 8) (show (bs.length : Int) ≠ 0 by omega)
  have e3 : sIx (.lst (bs.map D.adr)) (.int (r / 8 % (bs.length : Int))) = some (.f (.adr b)) := by
    refine e_ixL ?_
    unfold L2.atI L2.ixN
    have p1 := Int.emod_lt_of_pos (r / 8) h0
    rw [if_pos p0, if_pos (by rw [List.length_map]; exact p1)]
    show (List.map D.adr bs)[(r / 8 % (bs.length : Int)).toNat]? = _
    rw [List.getElem?_map, hb]
    rfl
  push_cast [hd, e1, e2, e3]
theorem mix_ln {ln : List D → OR} {td more d c : D} {l : List D} (i1 : sIx td d = some (.f c)) (i2 : ln [d, c] = .ret (.t (.lst l))) : gCall ln 2 (gaC (gSet (gV 6)) (gaC (gSet (g2 sIx (gV 0) (gV 6))) (gaN))) [.frz td, .frz more, .un, .un, .un, .un, .frz d, .un] = .ok (.tmp (.lst l)) [.frz td, .frz more, .un, .un, .un, .un, .frz d, .un] := by
  push_cast [i1, i2]
theorem DE.run {X : Cx} {W : WN} {e : Expr} {g : Cs → Out RV} {H0 F0 : Hp} {ts : List (Addr × D)} {env : Cs} {F : Hp} {σ : L2.St} {H : Hp} {Q : VK} (h : DE X W e g) (R : Rs X.K H0 F0 ts env F σ H) (p : PoE X.K W H0 F0 ts F σ Q (g env)) : eS X e σ H Q := h H0 F0 ts env F σ H Q R p
end DL

namespace DL
open PySem PySem.Spec PyProof.Rows L2
variable [TabCtx]
local macro_rules | `(tactic| walk_at "ev") => `(tactic| simp only [notIn2_s, notIn2_i, in2_s, in2_i, rev2_l, rev2_t, list2_l, list2_t, list2_k, list2_T, itK_dT, vG_T, vG2_T, vU2_T, notIn2_d, wipe_n, wipe_c, e_runF, lp_nx, lp_ct, lp_rt, tgt_some, for_cons, for_nil, e_tN, e_tTp, e_tCons, e_tNil, Option.bind_some, fin_rt, fin_nx, fin_exc, wp_nx, wp_ct, wp_rt, ↓bind_X, ↓bs_X, ↓seq_X, ↓lp_X, ↓tgt_X, bindX_ok, bindX_exc, bsX_ok, bsX_exc, seq_nx, seq_rt, seq_exc, seq_ct, seq_bk, e_sSeq, e_sNx, e_sCt, e_sBk, e_gNl, nlK_frz, nlK_tmp, settle_frz, settle_tmp, e_gSet, val_frz, val_tmp, e_gPk, e_gC, e_gB, bK_bl, e_gNot, e_gAnd, e_gOr, e_gAndV, e_gOrV, e_gNotV, e_gIf, e_sIf, e_g1, e_g2, outR_f, outR_t, e_gCh, chK_int, chK2_int, orK_ret, orK_exc, e_gCall, e_gaN, e_gaC, e_gTp, e_gLs, e_gDn, e_sSet, e_sEx, e_sRet, ret_frz, ret_tmp, cell_frz, cell_tmp, e_sPar2, e_sPar3, e_sFor, e_gLc, e_giA, itK_lst, itK_tup, itK_dK, itK_str, e_giR1, r1K_int, e_giR2, r2K_int, e_giE, enK_lst, e_giET, etK_t, ln_0, ln_1, ln_2, ln_3, ln_4, ln_5, ln_6, ln_7, ln_8, e_giZ, zipK_l, zipK_t, e_gLR, lrK_i, e_sRs, e_gDisp, e_gpN, e_gpC, gpK_i, gpK_s, e_int, e_intB, e_sPut, e_sAsg, e_gYes, e_sWhile, v_asg, v_pop, vPo_o, v_pop0, vP0_o,  e_goN, e_goS, goK_int, e_gSl, v_gV, vV_f, vV_o, v_set, vS_o, v_nl, v_val, vL_o, v_pk, vP_s, v_k1, v1_s, v_k2, v2_s, v_ret, vR_o, v_app, vA_o, v_appK, vA2_o, v_ext, vE_o, v_extK, vE2_o, vE2_t, v_get, vG_K, v_getK, vG2_i, vG2_t, v_put1, vU_o, v_put2, vU2_i, vU2_t, v_sl, vC_l, vC_t, v_noE, nE_ok, e_add, e_sub, e_neg, e_cmp, e_ltI, eq2_i, eq2_s, eq2_l, eq2_t, eq2_b, eq2_n, eq2_c, ne2_i, ne2_s, ne2_l, ne2_t, ne2_b, ne2_n, ne2_c, sort2_l, sort2_k, e_eqI, e_neI, e_eqS, e_neS, e_ix0, e_ix1, e_ix2, e_ix3, e_lenL, e_lenT, e_lenC, e_lenK, e_max2, e_min2, e_tupL, e_lstT, e_lstL, e_revL, isi_int_int, isi_bool_int, isi_str_str, isi_tup, isi_lst, isi_dict, List.getElem?_cons_zero, List.getElem?_cons_succ, List.set_cons_zero, List.set_cons_succ, List.map_cons, List.map_nil, List.cons_append, List.nil_append, List.length_cons, List.length_nil, List.replicate_succ, List.replicate_zero, Nat.reduceAdd, Nat.reduceSub, Nat.reduceEqDiff, ↓reduceIte, Bool.not_true, Bool.not_false, fLe, fLt, fGe, fGt, Bool.false_eq_true, Nat.reduceLeDiff, Int.ofNat_eq_coe, Int.cast_ofNat_Int, decide_true, decide_false])
local macro_rules | `(tactic| push_cast [$ls,*]) => `(tactic| simp only [notIn2_s, notIn2_i, in2_s, in2_i, rev2_l, rev2_t, list2_l, list2_t, list2_k, list2_T, itK_dT, vG_T, vG2_T, vU2_T, notIn2_d, wipe_n, wipe_c, e_runF, lp_nx, lp_ct, lp_rt, tgt_some, for_cons, for_nil, e_tN, e_tTp, e_tCons, e_tNil, Option.bind_some, fin_rt, fin_nx, fin_exc, wp_nx, wp_ct, wp_rt, ↓bind_X, ↓bs_X, ↓seq_X, ↓lp_X, ↓tgt_X, bindX_ok, bindX_exc, bsX_ok, bsX_exc, seq_nx, seq_rt, seq_exc, seq_ct, seq_bk, e_sSeq, e_sNx, e_sCt, e_sBk, e_gNl, nlK_frz, nlK_tmp, settle_frz, settle_tmp, e_gSet, val_frz, val_tmp, e_gPk, e_gC, e_gB, bK_bl, e_gNot, e_gAnd, e_gOr, e_gAndV, e_gOrV, e_gNotV, e_gIf, e_sIf, e_g1, e_g2, outR_f, outR_t, e_gCh, chK_int, chK2_int, orK_ret, orK_exc, e_gCall, e_gaN, e_gaC, e_gTp, e_gLs, e_gDn, e_sSet, e_sEx, e_sRet, ret_frz, ret_tmp, cell_frz, cell_tmp, e_sPar2, e_sPar3, e_sFor, e_gLc, e_giA, itK_lst, itK_tup, itK_dK, itK_str, e_giR1, r1K_int, e_giR2, r2K_int, e_giE, enK_lst, e_giET, etK_t, ln_0, ln_1, ln_2, ln_3, ln_4, ln_5, ln_6, ln_7, ln_8, e_giZ, zipK_l, zipK_t, e_gLR, lrK_i, e_sRs, e_gDisp, e_gpN, e_gpC, gpK_i, gpK_s, e_int, e_intB, e_sPut, e_sAsg, e_gYes, e_sWhile, v_asg, v_pop, vPo_o, v_pop0, vP0_o,  e_goN, e_goS, goK_int, e_gSl, v_gV, vV_f, vV_o, v_set, vS_o, v_nl, v_val, vL_o, v_pk, vP_s, v_k1, v1_s, v_k2, v2_s, v_ret, vR_o, v_app, vA_o, v_appK, vA2_o, v_ext, vE_o, v_extK, vE2_o, vE2_t, v_get, vG_K, v_getK, vG2_i, vG2_t, v_put1, vU_o, v_put2, vU2_i, vU2_t, v_sl, vC_l, vC_t, v_noE, nE_ok, e_add, e_sub, e_neg, e_cmp, e_ltI, eq2_i, eq2_s, eq2_l, eq2_t, eq2_b, eq2_n, eq2_c, ne2_i, ne2_s, ne2_l, ne2_t, ne2_b, ne2_n, ne2_c, sort2_l, sort2_k, e_eqI, e_neI, e_eqS, e_neS, e_ix0, e_ix1, e_ix2, e_ix3, e_lenL, e_lenT, e_lenC, e_lenK, e_max2, e_min2, e_tupL, e_lstT, e_lstL, e_revL, isi_int_int, isi_bool_int, isi_str_str, isi_tup, isi_lst, isi_dict, List.getElem?_cons_zero, List.getElem?_cons_succ, List.set_cons_zero, List.set_cons_succ, List.map_cons, List.map_nil, List.cons_append, List.nil_append, List.length_cons, List.length_nil, List.replicate_succ, List.replicate_zero, Nat.reduceAdd, Nat.reduceSub, Nat.reduceEqDiff, ↓reduceIte, Bool.not_true, Bool.not_false, fLe, fLt, fGe, fGt, Bool.false_eq_true, Nat.reduceLeDiff, Int.ofNat_eq_coe, Int.cast_ofNat_Int, decide_true, decide_false, $ls,*])
/-- thing, low, high -/
def g_is_count : Cs → OS :=
  sRet (gAndV (g1 (sIsi "int") (gV 0)) (gAndV (gNotV (g1 (sIsi "bool") (gV 0))) (gCh fLe fLe (gV 1) (gV 0) (gV 2))))
def sem_is_count : List D → OR := runF 3 g_is_count
/-- thing, sign -/
def g_is_name : Cs → OS :=
  sRet (gAndV (g1 (sIsi "str") (gV 0)) (gAndV (gCh fLe fLe (gC (.int 1)) (g1 sLen (gV 0)) (gC (.int 8))) (g1 sAll (gLc [1] (giA (gV 0)) (tN 1) (noE (gYes)) (noE (gSet (g2 (sIn2) (gV 1) (gC (.str "abcdefghijklmnopqrstuvwxyz")))))))))
def sem_is_name : List D → OR := runF 2 g_is_name
/-- thing -/
def g_is_row : Cs → OS :=
  sSeq (sIf (gOr (gNot (gB (g1 (sIsi "tuple") (gV 0)))) (gOr (gB (g2 (sNe2) (g1 sLen (gV 0)) (gC (.int 4)))) (gNot (gB (gCall (sem_is_count) 3 (gaC (gSet (g2 sIx (gV 0) (gC (.int 0)))) (gaC (gSet (gC (.int 0))) (gaC (gSet (gC (.int 1000000))) (gaN))))))))) (sRet (gC (.bl false))) (sNx)) (sRet (gAndV (gCall (sem_is_count) 3 (gaC (gSet (g2 sIx (gV 0) (gC (.int 1)))) (gaC (gSet (gC (.int 1))) (gaC (gSet (gC (.int 4))) (gaN))))) (gAndV (g2 (sIn2) (g2 sIx (gV 0) (gC (.int 2))) (gTp (gaC (gSet (gC (.str "begin"))) (gaC (gSet (gC (.str "end"))) (gaN))))) (gCall (sem_is_name) 1 (gaC (gSet (g2 sIx (gV 0) (gC (.int 3)))) (gaN))))))
def sem_is_row : List D → OR := runF 1 g_is_row
/-- rows, row -/
def g_need_rows : Cs → OS :=
  sIf (gOr (gNot (gB (g1 (sIsi "list") (gV 0)))) (gOr (gB (g2 (sCmp fGt) (g1 sLen (gV 0)) (gC (.int 200)))) (gNot (gB (g1 sAll (gLc [1] (giA (gV 0)) (tN 1) (noE (gYes)) (noE (gSet (gCall (sem_is_row) 1 (gaC (gSet (gV 1)) (gaN))))))))))) (sNo) (sNx)
def sem_need_rows : List D → OR := runF 2 g_need_rows
/-- rows, last, stacks, found, at, tick, hand, word, name, stack -/
def g_faults_of : Cs → OS :=
  sSeq (sPar3 1 2 3 (gDn (.dK [])) (gDn (.dK [])) (gLs (gaN))) (sSeq (sFor (giE (gV 0)) (tTp (tCons' (tN 4) (tCons' (tTp (tCons' (tN 5) (tCons' (tN 6) (tCons' (tN 7) (tCons' (tN 8) (tNil')))))) (tNil')))) (sSeq (sSet 9 (gGet' (gV 2) (gV 6) (gLs (gaN)))) (sSeq (sIf (gB (g2 (sLt) (gV 5) (gGet' (gV 1) (gV 6) (gC (.int 0))))) (sEx (gApp 3 (gSet (gTp (gaC (gSet (gV 4)) (gaC (gSet (gC (.str "early"))) (gaN))))))) (sNx)) (sSeq (sPut 1 (gSet (gV 6)) (gSet (g2 sMax2 (gV 5) (gGet' (gV 1) (gV 6) (gC (.int 0)))))) (sIf (gB (g2 (sEq2) (gV 7) (gC (.str "begin")))) (sPut 2 (gSet (gV 6)) (gSet (g2 sAdd (gV 9) (gLs (gaC (gSet (gTp (gaC (gSet (gV 4)) (gaC (gSet (gV 8)) (gaN))))) (gaN)))))) (sIf (gB (g2 (sEq2) (gV 9) (gLs (gaN)))) (sEx (gApp 3 (gSet (gTp (gaC (gSet (gV 4)) (gaC (gSet (gC (.str "lone"))) (gaN))))))) (sIf (gB (g2 (sNe2) (g2 sIx (g2 sIx (gV 9) (g1 sNeg (gC (.int 1)))) (gC (.int 1))) (gV 8))) (sEx (gApp 3 (gSet (gTp (gaC (gSet (gV 4)) (gaC (gSet (gC (.str "other"))) (gaN))))))) (sPut 2 (gSet (gV 6)) (gSet (gSl (gV 9) (goN) (goS (g1 sNeg (gC (.int 1)))))))))))))) (sSeq (sFor (giA (gV 2)) (tN 6) (sEx (gExt 3 (gPk (gLc [4, 8] (giA (g2 sIx (gV 2) (gV 6))) (tTp (tCons' (tN 4) (tCons' (tN 8) (tNil')))) (noE (gYes)) (noE (gSet (gTp (gaC (gSet (gV 4)) (gaC (gSet (gC (.str "late"))) (gaN))))))))))) (sRet (g1 sSort2 (gV 3)))))
def sem_faults_of : List D → OR := runF 10 g_faults_of
/-- rows -/
def g_faults : Cs → OS :=
  sSeq (sEx (gCall (sem_need_rows) 1 (gaC (gSet (gV 0)) (gaN)))) (sRet (gCall (sem_faults_of) 1 (gaC (gSet (gV 0)) (gaN))))
def sem_faults : List D → OR := runF 1 g_faults
/-- stack, name, found, at, own -/
def g_inner_place : Cs → OS :=
  sSeq (sSet 2 (gLc [3, 4] (giE (gV 0)) (tTp (tCons' (tN 3) (tCons' (tN 4) (tNil')))) (noE (gB (g2 (sEq2) (gV 4) (gV 1)))) (noE (gSet (gV 3))))) (sRet (gIf (gB (g2 (sNe2) (gV 2) (gLs (gaN)))) (g2 sIx (gV 2) (g1 sNeg (gC (.int 1)))) (gC .non)))
def sem_inner_place : List D → OR := runF 5 g_inner_place
/-- rows, last, stacks, found, tick, hand, word, name, stack, place, own -/
def g_mended_of : Cs → OS :=
  sSeq (sPar3 1 2 3 (gDn (.dK [])) (gDn (.dK [])) (gLs (gaN))) (sSeq (sFor (giA (gV 0)) (tTp (tCons' (tN 4) (tCons' (tN 5) (tCons' (tN 6) (tCons' (tN 7) (tNil')))))) (sSeq (sSet 4 (g2 sMax2 (gV 4) (gGet' (gV 1) (gV 5) (gC (.int 0))))) (sSeq (sPut 1 (gSet (gV 5)) (gSet (gV 4))) (sSeq (sSet 8 (gGet' (gV 2) (gV 5) (gLs (gaN)))) (sSeq (sIf (gB (g2 (sEq2) (gV 6) (gC (.str "begin")))) (sSeq (sEx (gApp 3 (gSet (gTp (gaC (gSet (gV 4)) (gaC (gSet (gV 5)) (gaC (gSet (gV 6)) (gaC (gSet (gV 7)) (gaN))))))))) (sSeq (sPut 2 (gSet (gV 5)) (gSet (g2 sAdd (gV 8) (gLs (gaC (gSet (gV 7)) (gaN)))))) (sCt))) (sNx)) (sSeq (sSet 9 (gCall (sem_inner_place) 2 (gaC (gSet (gV 8)) (gaC (gSet (gV 7)) (gaN))))) (sIf (gB (g2 (sIsNot) (gV 9) (gC .non))) (sSeq (sEx (gExt 3 (gPk (gLc [10] (giA (g1 sRev2 (gSl (gV 8) (goS (gV 9)) (goN)))) (tN 10) (noE (gYes)) (noE (gSet (gTp (gaC (gSet (gV 4)) (gaC (gSet (gV 5)) (gaC (gSet (gC (.str "end"))) (gaC (gSet (gV 10)) (gaN)))))))))))) (sPut 2 (gSet (gV 5)) (gSet (gSl (gV 8) (goN) (goS (gV 9)))))) (sNx)))))))) (sSeq (sFor (giA (g1 sSort2 (gV 2))) (tN 5) (sEx (gExt 3 (gPk (gLc [7] (giA (g1 sRev2 (g2 sIx (gV 2) (gV 5)))) (tN 7) (noE (gYes)) (noE (gSet (gTp (gaC (gSet (g2 sIx (gV 1) (gV 5))) (gaC (gSet (gV 5)) (gaC (gSet (gC (.str "end"))) (gaC (gSet (gV 7)) (gaN))))))))))))) (sRet (gV 3))))
def sem_mended_of : List D → OR := runF 11 g_mended_of
/-- rows -/
def g_mended : Cs → OS :=
  sSeq (sEx (gCall (sem_need_rows) 1 (gaC (gSet (gV 0)) (gaN)))) (sRet (gCall (sem_mended_of) 1 (gaC (gSet (gV 0)) (gaN))))
def sem_mended : List D → OR := runF 1 g_mended
/-- rows, row -/
def g_hands : Cs → OS :=
  sSeq (sEx (gCall (sem_need_rows) 1 (gaC (gSet (gV 0)) (gaN)))) (sRet (g1 sSortSet (gLc [1] (giA (gV 0)) (tN 1) (noE (gYes)) (noE (gSet (g2 sIx (gV 1) (gC (.int 1))))))))
def sem_hands : List D → OR := runF 2 g_hands
/-- script, k -/
def g_law_cell : Cs → OS :=
  sSeq (sIf (gB (g2 (sEq2) (gV 0) (gLs (gaN)))) (sRet (g2 sMul (gV 1) (gC (.int 7919)))) (sNx)) (sRet (g2 sAdd (g2 sIx (gV 0) (g2 sMod (gV 1) (g1 sLen (gV 0)))) (g2 sMul (g2 sFdiv (gV 1) (g1 sLen (gV 0))) (gC (.int 104729)))))
def sem_law_cell : List D → OR := runF 2 g_law_cell
/-- cell, k, more -/
def g_law_drawn : Cs → OS :=
  sSeq (sSet 2 (g2 sMod (g2 sAdd (g2 sMul (gV 0) (gC (.int 6364136223846793005))) (g2 sMul (g2 sAdd (gV 1) (gC (.int 1))) (gC (.int 1442695040888963407)))) (gC (.int 340282366920938463463374607431768211507)))) (sSeq (sSet 2 (g2 sMod (g2 sMul (gV 2) (gV 2)) (gC (.int 340282366920938463463374607431768211297)))) (sSeq (sSet 2 (g2 sMul (g2 sMul (g2 sAdd (g2 sMod (gV 2) (gC (.int 18446744073709551557))) (gC (.int 1))) (g2 sAdd (g2 sFdiv (gV 2) (gC (.int 18446744073709551557))) (gC (.int 1)))) (gV 2))) (sRet (g2 sMod (gV 2) (gC (.int 340282366920938463463374607431768211507))))))
def sem_law_drawn : List D → OR := runF 3 g_law_drawn
/-- more -/
def g_law_name : Cs → OS :=
  sRet (g2 sIx (gLs (gaC (gSet (gC (.str "a"))) (gaC (gSet (gC (.str "b"))) (gaC (gSet (gC (.str "c"))) (gaC (gSet (gC (.str "ab"))) (gaC (gSet (gC (.str "work"))) (gaC (gSet (gC (.str "abcdefgh"))) (gaN)))))))) (g2 sMod (g2 sFdiv (gV 0) (gC (.int 8))) (gC (.int 6))))
def sem_law_name : List D → OR := runF 1 g_law_name
/-- more, low, high, deep, found, here, j, one, first, last -/
def g_law_calls (self : List D → OR) : Cs → OS :=
  sSeq (sPar2 4 5 (gLs (gaN)) (gV 1)) (sSeq (sFor (giR1 (gIf (gB (g2 (sCmp fGt) (gV 3) (gC (.int 0)))) (g2 sMod (gV 0) (gC (.int 4))) (gC (.int 0)))) (tN 6) (sSeq (sSet 7 (gCall (sem_law_drawn) 2 (gaC (gSet (gV 0)) (gaC (gSet (gV 6)) (gaN))))) (sSeq (sSet 8 (g2 sAdd (gV 5) (g2 sMod (g2 sFdiv (gV 7) (gC (.int 8))) (g2 sIx (gLs (gaC (gSet (gC (.int 1))) (gaC (gSet (gC (.int 4))) (gaC (gSet (gC (.int 9))) (gaN))))) (g2 sMod (gV 7) (gC (.int 3))))))) (sSeq (sSet 9 (g2 sAdd (gV 8) (g2 sMod (g2 sFdiv (gV 7) (gC (.int 512))) (g2 sIx (gLs (gaC (gSet (gC (.int 1))) (gaC (gSet (gC (.int 7))) (gaC (gSet (gC (.int 40))) (gaC (gSet (gC (.int 300))) (gaN)))))) (g2 sMod (g2 sFdiv (gV 7) (gC (.int 64))) (gC (.int 4))))))) (sIf (gB (g2 (sCmp fLe) (gV 9) (gV 2))) (sSeq (sEx (gApp 4 (gSet (gTp (gaC (gSet (gCall (sem_law_name) 1 (gaC (gSet (g2 sFdiv (gV 7) (gC (.int 16)))) (gaN)))) (gaC (gSet (gV 8)) (gaC (gSet (gV 9)) (gaC (gSet (gCall (self) 4 (gaC (gSet (gCall (sem_law_drawn) 2 (gaC (gSet (gV 7)) (gaC (gSet (gC (.int 1))) (gaN))))) (gaC (gSet (gV 8)) (gaC (gSet (gV 9)) (gaC (gSet (g2 sSub (gV 3) (gC (.int 1)))) (gaN))))))) (gaN))))))))) (sSet 5 (gV 9))) (sNx)))))) (sRet (g1 sTupleOf (gV 4))))
def sem_law_calls : Nat → List D → OR
  | 0 => fun _ => .stuck
  | n + 1 => runF 10 (g_law_calls (sem_law_calls n))
/-- more, found, hand, here, calls -/
def g_law_trees : Cs → OS :=
  sSeq (sSet 1 (gDn (.dK []))) (sSeq (sFor (giR2 (gC (.int 1)) (gC (.int 5))) (tN 2) (sSeq (sSet 3 (gCall (sem_law_drawn) 2 (gaC (gSet (gV 0)) (gaC (gSet (g2 sAdd (gC (.int 10)) (gV 2))) (gaN))))) (sSeq (sSet 4 (gCall (sem_law_calls 6) 4 (gaC (gSet (g2 sFdiv (gV 3) (gC (.int 8)))) (gaC (gSet (g2 sMod (gV 3) (gC (.int 5)))) (gaC (gSet (g2 sAdd (gC (.int 5)) (g2 sMod (g2 sFdiv (gV 3) (gC (.int 64))) (gC (.int 900))))) (gaC (gSet (gC (.int 4))) (gaN))))))) (sIf (gAnd (gB (g2 (sNe2) (gV 4) (gTp (gaN)))) (gB (g2 (sCmp fGt) (g2 sMod (gV 3) (gC (.int 3))) (gC (.int 0))))) (sPut 1 (gSet (gV 2)) (gSet (gV 4))) (sNx))))) (sRet (gV 1)))
def sem_law_trees : List D → OR := runF 5 g_law_trees
/-- hand, calls, found, name, first, last, inner -/
def g_law_lines (self : List D → OR) : Cs → OS :=
  sSeq (sSet 2 (gLs (gaN))) (sSeq (sFor (giA (gV 1)) (tTp (tCons' (tN 3) (tCons' (tN 4) (tCons' (tN 5) (tCons' (tN 6) (tNil')))))) (sSet 2 (g2 sAdd (g2 sAdd (g2 sAdd (gV 2) (gLs (gaC (gSet (gTp (gaC (gSet (gV 4)) (gaC (gSet (gV 0)) (gaC (gSet (gC (.str "begin"))) (gaC (gSet (gV 3)) (gaN))))))) (gaN)))) (gCall (self) 2 (gaC (gSet (gV 0)) (gaC (gSet (gV 6)) (gaN))))) (gLs (gaC (gSet (gTp (gaC (gSet (gV 5)) (gaC (gSet (gV 0)) (gaC (gSet (gC (.str "end"))) (gaC (gSet (gV 3)) (gaN))))))) (gaN)))))) (sRet (gV 2)))
def sem_law_lines : Nat → List D → OR
  | 0 => fun _ => .stuck
  | n + 1 => runF 7 (g_law_lines (sem_law_lines n))
def sem_law_mixed : List D → OR := semMix (sem_law_lines 6) sem_law_drawn

/-- script, k, more, rows, j, here, told, due, hand, places, mine, spot, row, word -/
def g_law : Cs → OS :=
  sSeq (sFor (giR1 (g2 sMax2 (gC (.int 1)) (g2 sMin2 (gC (.int 3)) (g1 sLen (gV 0))))) (tN 1) (sSeq (sSet 2 (gCall (sem_law_drawn) 2 (gaC (gSet (gCall (sem_law_cell) 2 (gaC (gSet (gV 0)) (gaC (gSet (gV 1)) (gaN))))) (gaC (gSet (gV 1)) (gaN))))) (sSeq (sSet 3 (gLs (gaN))) (sSeq (sFor (giR1 (g2 sMod (gV 2) (gC (.int 25)))) (tN 4) (sSeq (sSet 5 (gCall (sem_law_drawn) 2 (gaC (gSet (gV 2)) (gaC (gSet (g2 sAdd (gC (.int 30)) (gV 4))) (gaN))))) (sEx (gApp 3 (gSet (gTp (gaC (gSet (g2 sMod (g2 sFdiv (gV 5) (gC (.int 8))) (gC (.int 60)))) (gaC (gSet (g2 sAdd (gC (.int 1)) (g2 sMod (g2 sFdiv (gV 5) (gC (.int 512))) (gC (.int 4))))) (gaC (gSet (g2 sIx (gLs (gaC (gSet (gC (.str "begin"))) (gaC (gSet (gC (.str "end"))) (gaN)))) (g2 sMod (gV 5) (gC (.int 2))))) (gaC (gSet (gCall (sem_law_name) 1 (gaC (gSet (g2 sFdiv (gV 5) (gC (.int 4096)))) (gaN)))) (gaN))))))))))) (sSeq (sSet 3 (gSl (g2 sAdd (gSl (gCall (sem_law_mixed) 2 (gaC (gSet (gCall (sem_law_trees) 1 (gaC (gSet (g2 sFdiv (gV 2) (gC (.int 64)))) (gaN)))) (gaC (gSet (gV 2)) (gaN)))) (goN) (goS (gC (.int 60)))) (gV 3)) (goN) (goS (gC (.int 90))))) (sSeq (sPar2 6 7 (gCall (sem_mended) 1 (gaC (gSet (gV 3)) (gaN))) (gLs (gaN))) (sSeq (sFor (giA (gCall (sem_hands) 1 (gaC (gSet (gV 3)) (gaN)))) (tN 8) (sSeq (sSet 9 (gLc [11, 12] (giE (gV 3)) (tTp (tCons' (tN 11) (tCons' (tN 12) (tNil')))) (noE (gB (g2 (sEq2) (g2 sIx (gV 12) (gC (.int 1))) (gV 8)))) (noE (gSet (gV 11))))) (sSeq (sSet 10 (gLc [11] (giA (gV 9)) (tN 11) (noE (gYes)) (noE (gSet (g2 sIx (gV 3) (gV 11)))))) (sSeq (sSet 7 (g2 sAdd (gV 7) (gLc [11, 13] (giA (gCall (sem_faults) 1 (gaC (gSet (gV 10)) (gaN)))) (tTp (tCons' (tN 11) (tCons' (tN 13) (tNil')))) (noE (gYes)) (noE (gSet (gTp (gaC (gSet (g2 sIx (gV 9) (gV 11))) (gaC (gSet (gV 13)) (gaN))))))))) (sIf (gOr (gB (g2 (sNe2) (gCall (sem_mended) 1 (gaC (gSet (gV 10)) (gaN))) (gLc [12] (giA (gV 6)) (tN 12) (noE (gB (g2 (sEq2) (g2 sIx (gV 12) (gC (.int 1))) (gV 8)))) (noE (gSet (gV 12)))))) (gB (g2 (sNe2) (gCall (sem_hands) 1 (gaC (gSet (gV 10)) (gaN))) (gLs (gaC (gSet (gV 8)) (gaN)))))) (sRet (gC (.bl false))) (sNx)))))) (sSeq (sIf (gOr (gB (g2 (sNe2) (g1 sSort2 (gV 7)) (gCall (sem_faults) 1 (gaC (gSet (gV 3)) (gaN))))) (gOr (gB (g2 (sNe2) (gCall (sem_mended) 1 (gaC (gSet (gV 6)) (gaN))) (gV 6))) (gB (g2 (sNe2) (gCall (sem_faults) 1 (gaC (gSet (gV 6)) (gaN))) (gLs (gaN)))))) (sRet (gC (.bl false))) (sNx)) (sSeq (sIf (gB (g2 (sNe2) (gLc [12] (giA (gV 6)) (tN 12) (noE (gB (g2 (sEq2) (g2 sIx (gV 12) (gC (.int 2))) (gC (.str "begin"))))) (noE (gSet (gSl (gV 12) (goS (gC (.int 1))) (goN))))) (gLc [12] (giA (gV 3)) (tN 12) (noE (gB (g2 (sEq2) (g2 sIx (gV 12) (gC (.int 2))) (gC (.str "begin"))))) (noE (gSet (gSl (gV 12) (goS (gC (.int 1))) (goN))))))) (sRet (gC (.bl false))) (sNx)) (sIf (gB (g2 (sNe2) (g2 (sEq2) (gV 6) (gV 3)) (g2 (sEq2) (gCall (sem_faults) 1 (gaC (gSet (gV 3)) (gaN))) (gLs (gaN))))) (sRet (gC (.bl false))) (sNx))))))))))) (sRet (gC (.bl true)))
def sem_law : List D → OR := runF 14 g_law
/-- thing, low, high, one -/
def g_are_calls (self : List D → OR) : Cs → OS :=
  sSeq (sIf (gNot (gB (g1 (sIsi "tuple") (gV 0)))) (sRet (gC (.bl false))) (sNx)) (sSeq (sFor (giA (gV 0)) (tN 3) (sSeq (sIf (gOr (gNot (gB (g1 (sIsi "tuple") (gV 3)))) (gOr (gB (g2 (sNe2) (g1 sLen (gV 3)) (gC (.int 4)))) (gOr (gNot (gB (gCall (sem_is_name) 1 (gaC (gSet (g2 sIx (gV 3) (gC (.int 0)))) (gaN))))) (gNot (gB (gCall (sem_is_count) 3 (gaC (gSet (g2 sIx (gV 3) (gC (.int 1)))) (gaC (gSet (gV 1)) (gaC (gSet (gV 2)) (gaN)))))))))) (sRet (gC (.bl false))) (sNx)) (sSeq (sIf (gOr (gNot (gB (gCall (sem_is_count) 3 (gaC (gSet (g2 sIx (gV 3) (gC (.int 2)))) (gaC (gSet (g2 sIx (gV 3) (gC (.int 1)))) (gaC (gSet (gV 2)) (gaN))))))) (gNot (gB (gCall (self) 3 (gaC (gSet (g2 sIx (gV 3) (gC (.int 3)))) (gaC (gSet (g2 sIx (gV 3) (gC (.int 1)))) (gaC (gSet (g2 sIx (gV 3) (gC (.int 2)))) (gaN)))))))) (sRet (gC (.bl false))) (sNx)) (sSet 1 (g2 sIx (gV 3) (gC (.int 2))))))) (sRet (gC (.bl true))))
def sem_are_calls : Nat → List D → OR
  | 0 => fun _ => .stuck
  | n + 1 => runF 4 (g_are_calls (sem_are_calls n))
/-- trees_here, hand -/
def g_need_trees : Cs → OS :=
  sSeq (sIf (gOr (gNot (gB (g1 (sIsi "dict") (gV 0)))) (gNot (gB (g1 sAll (gLc [1] (giA (gV 0)) (tN 1) (noE (gYes)) (noE (gSet (gCall (sem_is_count) 3 (gaC (gSet (gV 1)) (gaC (gSet (gC (.int 1))) (gaC (gSet (gC (.int 4))) (gaN)))))))))))) (sNo) (sNx)) (sIf (gNot (gB (g1 sAll (gLc [1] (giA (gV 0)) (tN 1) (noE (gYes)) (noE (gSet (gCall (sem_are_calls 6) 3 (gaC (gSet (g2 sIx (gV 0) (gV 1))) (gaC (gSet (gC (.int 0))) (gaC (gSet (gC (.int 1000000))) (gaN))))))))))) (sNo) (sNx))
def sem_need_trees : List D → OR := runF 2 g_need_trees
/-- call -/
def g_whole : Cs → OS :=
  sRet (g2 sSub (g2 sIx (gV 0) (gC (.int 2))) (g2 sIx (gV 0) (gC (.int 1))))
def sem_whole : List D → OR := runF 1 g_whole
/-- call, one -/
def g_own : Cs → OS :=
  sRet (g2 sSub (gCall (sem_whole) 1 (gaC (gSet (gV 0)) (gaN))) (g1 sSum (gLc [1] (giA (g2 sIx (gV 0) (gC (.int 3)))) (tN 1) (noE (gYes)) (noE (gSet (gCall (sem_whole) 1 (gaC (gSet (gV 1)) (gaN))))))))
def sem_own : List D → OR := runF 2 g_own
/-- calls, found, one -/
def g_all_calls (self : List D → OR) : Cs → OS :=
  sSeq (sSet 1 (gLs (gaN))) (sSeq (sFor (giA (gV 0)) (tN 2) (sSeq (sEx (gApp 1 (gSet (gV 2)))) (sEx (gExt 1 (gPk (gCall (self) 1 (gaC (gSet (g2 sIx (gV 2) (gC (.int 3)))) (gaN)))))))) (sRet (gV 1)))
def sem_all_calls : Nat → List D → OR
  | 0 => fun _ => .stuck
  | n + 1 => runF 3 (g_all_calls (sem_all_calls n))
/-- trees_here, hand -/
def g_need_hand : Cs → OS :=
  sSeq (sEx (gCall (sem_need_trees) 1 (gaC (gSet (gV 0)) (gaN)))) (sIf (gOr (gNot (gB (gCall (sem_is_count) 3 (gaC (gSet (gV 1)) (gaC (gSet (gC (.int 1))) (gaC (gSet (gC (.int 4))) (gaN))))))) (gB (g2 (sNotIn2) (gV 1) (gV 0)))) (sNo) (sNx))
def sem_need_hand : List D → OR := runF 2 g_need_hand
/-- tick -/
def g_need_tick : Cs → OS :=
  sIf (gNot (gB (gCall (sem_is_count) 3 (gaC (gSet (gV 0)) (gaC (gSet (gC (.int 0))) (gaC (gSet (gC (.int 1000000))) (gaN))))))) (sNo) (sNx)
def sem_need_tick : List D → OR := runF 1 g_need_tick
/-- calls, tick, name, first, last, inner -/
def g_stack_in (self : List D → OR) : Cs → OS :=
  sSeq (sFor (giA (gV 0)) (tTp (tCons' (tN 2) (tCons' (tN 3) (tCons' (tN 4) (tCons' (tN 5) (tNil')))))) (sIf (gB (gCh fLe fLt (gV 3) (gV 1) (gV 4))) (sRet (g2 sAdd (gLs (gaC (gSet (gV 2)) (gaN))) (gCall (self) 2 (gaC (gSet (gV 5)) (gaC (gSet (gV 1)) (gaN)))))) (sNx))) (sRet (gLs (gaN)))
def sem_stack_in : Nat → List D → OR
  | 0 => fun _ => .stuck
  | n + 1 => runF 6 (g_stack_in (sem_stack_in n))
/-- trees_here, hand, tick -/
def g_stack_at : Cs → OS :=
  sSeq (sEx (gCall (sem_need_hand) 2 (gaC (gSet (gV 0)) (gaC (gSet (gV 1)) (gaN))))) (sSeq (sEx (gCall (sem_need_tick) 1 (gaC (gSet (gV 2)) (gaN)))) (sRet (gCall (sem_stack_in 6) 2 (gaC (gSet (g2 sIx (gV 0) (gV 1))) (gaC (gSet (gV 2)) (gaN))))))
def sem_stack_at : List D → OR := runF 3 g_stack_at
/-- calls, one -/
def g_depth_of (self : List D → OR) : Cs → OS :=
  sRet (g1 sMax (g2 sAdd (gLs (gaC (gSet (gC (.int 0))) (gaN))) (gLc [1] (giA (gV 0)) (tN 1) (noE (gYes)) (noE (gSet (g2 sAdd (gC (.int 1)) (gCall (self) 1 (gaC (gSet (g2 sIx (gV 1) (gC (.int 3)))) (gaN)))))))))
def sem_depth_of : Nat → List D → OR
  | 0 => fun _ => .stuck
  | n + 1 => runF 2 (g_depth_of (sem_depth_of n))
/-- trees_here, hand -/
def g_deepest : Cs → OS :=
  sSeq (sEx (gCall (sem_need_trees) 1 (gaC (gSet (gV 0)) (gaN)))) (sRet (g1 sMax (g2 sAdd (gLs (gaC (gSet (gC (.int 0))) (gaN))) (gLc [1] (giA (gV 0)) (tN 1) (noE (gYes)) (noE (gSet (gCall (sem_depth_of 6) 1 (gaC (gSet (g2 sIx (gV 0) (gV 1))) (gaN)))))))))
def sem_deepest : List D → OR := runF 2 g_deepest
/-- calls, around, found, one -/
def g_outer (self : List D → OR) : Cs → OS :=
  sSeq (sSet 2 (gLs (gaN))) (sSeq (sFor (giA (gV 0)) (tN 3) (sSeq (sIf (gB (g2 (sNotIn2) (g2 sIx (gV 3) (gC (.int 0))) (gV 1))) (sEx (gApp 2 (gSet (gTp (gaC (gSet (g2 sIx (gV 3) (gC (.int 0)))) (gaC (gSet (gCall (sem_whole) 1 (gaC (gSet (gV 3)) (gaN)))) (gaN))))))) (sNx)) (sEx (gExt 2 (gPk (gCall (self) 2 (gaC (gSet (g2 sIx (gV 3) (gC (.int 3)))) (gaC (gSet (g2 sAdd (gV 1) (gLs (gaC (gSet (g2 sIx (gV 3) (gC (.int 0)))) (gaN))))) (gaN))))))))) (sRet (gV 2)))
def sem_outer : Nat → List D → OR
  | 0 => fun _ => .stuck
  | n + 1 => runF 4 (g_outer (sem_outer n))
/-- trees_here, found, hand -/
def g_every : Cs → OS :=
  sSeq (sSet 1 (gLs (gaN))) (sSeq (sFor (giA (g1 sSort2 (gV 0))) (tN 2) (sEx (gExt 1 (gPk (gCall (sem_all_calls 6) 1 (gaC (gSet (g2 sIx (gV 0) (gV 2))) (gaN))))))) (sRet (gV 1)))
def sem_every : List D → OR := runF 3 g_every
/-- trees_here, counts, wholes, owns, one, hand, name, time -/
def g_table : Cs → OS :=
  sSeq (sEx (gCall (sem_need_trees) 1 (gaC (gSet (gV 0)) (gaN)))) (sSeq (sPar3 1 2 3 (gDn (.dK [])) (gDn (.dK [])) (gDn (.dK []))) (sSeq (sFor (giA (gCall (sem_every) 1 (gaC (gSet (gV 0)) (gaN)))) (tN 4) (sSeq (sPut 1 (gSet (g2 sIx (gV 4) (gC (.int 0)))) (gSet (g2 sAdd (gGet' (gV 1) (g2 sIx (gV 4) (gC (.int 0))) (gC (.int 0))) (gC (.int 1))))) (sPut 3 (gSet (g2 sIx (gV 4) (gC (.int 0)))) (gSet (g2 sAdd (gGet' (gV 3) (g2 sIx (gV 4) (gC (.int 0))) (gC (.int 0))) (gCall (sem_own) 1 (gaC (gSet (gV 4)) (gaN)))))))) (sSeq (sFor (giA (gV 0)) (tN 5) (sFor (giA (gCall (sem_outer 6) 2 (gaC (gSet (g2 sIx (gV 0) (gV 5))) (gaC (gSet (gLs (gaN))) (gaN))))) (tTp (tCons' (tN 6) (tCons' (tN 7) (tNil')))) (sPut 2 (gSet (gV 6)) (gSet (g2 sAdd (gGet' (gV 2) (gV 6) (gC (.int 0))) (gV 7)))))) (sRet (gLc [6] (giA (g1 sSort2 (gV 1))) (tN 6) (noE (gYes)) (noE (gSet (gTp (gaC (gSet (gV 6)) (gaC (gSet (g2 sIx (gV 1) (gV 6))) (gaC (gSet (g2 sIx (gV 2) (gV 6))) (gaC (gSet (g2 sIx (gV 3) (gV 6))) (gaN)))))))))))))
def sem_table : List D → OR := runF 8 g_table
/-- rows -/
def g_need_right : Cs → OS :=
  sSeq (sEx (gCall (sem_need_rows) 1 (gaC (gSet (gV 0)) (gaN)))) (sIf (gB (g2 (sNe2) (gCall (sem_faults_of) 1 (gaC (gSet (gV 0)) (gaN))) (gLs (gaN)))) (sNo) (sNx))
def sem_need_right : List D → OR := runF 1 g_need_right

/-- rows, found, hand, row -/
def g_trees : Cs → OS :=
  sSeq (sEx (gCall (sem_need_right) 1 (gaC (gSet (gV 0)) (gaN)))) (sSeq (sSet 1 (gDn (.dK []))) (sSeq (sFor (giA (g1 sSortSet (gLc [3] (giA (gV 0)) (tN 3) (noE (gYes)) (noE (gSet (g2 sIx (gV 3) (gC (.int 1)))))))) (tN 2) (sPut 1 (gSet (gV 2)) (gSet (gCall (sem_grown) 1 (gaC (gSet (gLc [3] (giA (gV 0)) (tN 3) (noE (gB (g2 (sEq2) (g2 sIx (gV 3) (gC (.int 1))) (gV 2)))) (noE (gSet (gV 3))))) (gaN)))))) (sRet (gV 1))))
def sem_trees : List D → OR := runF 4 g_trees
/-- hand, calls, found, name, first, last, inner -/
def g_rows_in (self : List D → OR) : Cs → OS :=
  sSeq (sSet 2 (gLs (gaN))) (sSeq (sFor (giA (gV 1)) (tTp (tCons' (tN 3) (tCons' (tN 4) (tCons' (tN 5) (tCons' (tN 6) (tNil')))))) (sSeq (sEx (gApp 2 (gSet (gTp (gaC (gSet (gV 4)) (gaC (gSet (gV 0)) (gaC (gSet (gC (.str "begin"))) (gaC (gSet (gV 3)) (gaN))))))))) (sSeq (sEx (gExt 2 (gPk (gCall (self) 2 (gaC (gSet (gV 0)) (gaC (gSet (gV 6)) (gaN))))))) (sEx (gApp 2 (gSet (gTp (gaC (gSet (gV 5)) (gaC (gSet (gV 0)) (gaC (gSet (gC (.str "end"))) (gaC (gSet (gV 3)) (gaN)))))))))))) (sRet (gV 2)))
def sem_rows_in : Nat → List D → OR
  | 0 => fun _ => .stuck
  | n + 1 => runF 7 (g_rows_in (sem_rows_in n))
/-- trees_here, found, hand -/
def g_rows_of : Cs → OS :=
  sSeq (sEx (gCall (sem_need_trees) 1 (gaC (gSet (gV 0)) (gaN)))) (sSeq (sSet 1 (gLs (gaN))) (sSeq (sFor (giA (g1 sSort2 (gV 0))) (tN 2) (sEx (gExt 1 (gPk (gCall (sem_rows_in 6) 2 (gaC (gSet (gV 2)) (gaC (gSet (g2 sIx (gV 0) (gV 2))) (gaN)))))))) (sRet (gV 1))))
def sem_rows_of : List D → OR := runF 3 g_rows_of
/-- trees_here, most, hand, order, found, at, one -/
def g_longest : Cs → OS :=
  sSeq (sEx (gCall (sem_need_trees) 1 (gaC (gSet (gV 0)) (gaN)))) (sSeq (sIf (gNot (gB (gCall (sem_is_count) 3 (gaC (gSet (gV 1)) (gaC (gSet (gC (.int 0))) (gaC (gSet (gC (.int 50))) (gaN))))))) (sNo) (sNx)) (sSeq (sSet 4 (gLs (gaN))) (sSeq (sFor (giA (g1 sSort2 (gV 0))) (tN 2) (sEx (gExt 4 (gPk (gLc [6] (giA (gCall (sem_all_calls 6) 1 (gaC (gSet (g2 sIx (gV 0) (gV 2))) (gaN)))) (tN 6) (noE (gYes)) (noE (gSet (gTp (gaC (gSet (gCall (sem_whole) 1 (gaC (gSet (gV 6)) (gaN)))) (gaC (gSet (gV 2)) (gaC (gSet (g2 sIx (gV 6) (gC (.int 1)))) (gaC (gSet (g2 sIx (gV 6) (gC (.int 0)))) (gaN))))))))))))) (sSeq (sSet 3 (gSortAt 4)) (sRet (gLc [5] (giA (gSl (gV 3) (goN) (goS (gV 1)))) (tN 5) (noE (gYes)) (noE (gSet (g2 sIx (gV 4) (gV 5))))))))))
def sem_longest : List D → OR := runF 7 g_longest
/-- trees_here, name, counts, times, rows, one, caller, calls, hand -/
def g_callers : Cs → OS :=
  sSeq (sEx (gCall (sem_need_trees) 1 (gaC (gSet (gV 0)) (gaN)))) (sSeq (sIf (gNot (gB (gCall (sem_is_name) 1 (gaC (gSet (gV 1)) (gaN))))) (sNo) (sNx)) (sSeq (sPar2 2 3 (gDn (.dK [])) (gDn (.dK []))) (sSeq (sSet 4 (gLc [8] (giA (gV 0)) (tN 8) (noE (gYes)) (noE (gSet (gTp (gaC (gSet (gC (.str ""))) (gaC (gSet (g2 sIx (gV 0) (gV 8))) (gaN)))))))) (sSeq (sSet 4 (g2 sAdd (gV 4) (gLc [5] (giA (gCall (sem_every) 1 (gaC (gSet (gV 0)) (gaN)))) (tN 5) (noE (gYes)) (noE (gSet (gTp (gaC (gSet (g2 sIx (gV 5) (gC (.int 0)))) (gaC (gSet (g2 sIx (gV 5) (gC (.int 3)))) (gaN))))))))) (sSeq (sFor (giA (gV 4)) (tTp (tCons' (tN 6) (tCons' (tN 7) (tNil')))) (sFor (giA (gV 7)) (tN 5) (sIf (gB (g2 (sEq2) (g2 sIx (gV 5) (gC (.int 0))) (gV 1))) (sSeq (sPut 2 (gSet (gV 6)) (gSet (g2 sAdd (gGet' (gV 2) (gV 6) (gC (.int 0))) (gC (.int 1))))) (sPut 3 (gSet (gV 6)) (gSet (g2 sAdd (gGet' (gV 3) (gV 6) (gC (.int 0))) (gCall (sem_whole) 1 (gaC (gSet (gV 5)) (gaN))))))) (sNx)))) (sRet (gLc [6] (giA (g1 sSort2 (gV 2))) (tN 6) (noE (gYes)) (noE (gSet (gTp (gaC (gSet (gV 6)) (gaC (gSet (g2 sIx (gV 2) (gV 6))) (gaC (gSet (g2 sIx (gV 3) (gV 6))) (gaN))))))))))))))
def sem_callers : List D → OR := runF 9 g_callers
/-- calls, found, one -/
def g_spans_of : Cs → OS :=
  sSeq (sSet 1 (gLs (gaN))) (sSeq (sFor (giA (gV 0)) (tN 2) (sIf (gAnd (gB (g2 (sNe2) (gV 1) (gLs (gaN)))) (gB (g2 (sEq2) (g2 sIx (g2 sIx (gV 1) (g1 sNeg (gC (.int 1)))) (gC (.int 1))) (g2 sIx (gV 2) (gC (.int 1)))))) (sPut 1 (gSet (g1 sNeg (gC (.int 1)))) (gSet (gTp (gaC (gSet (g2 sIx (g2 sIx (gV 1) (g1 sNeg (gC (.int 1)))) (gC (.int 0)))) (gaC (gSet (g2 sIx (gV 2) (gC (.int 2)))) (gaN)))))) (sIf (gB (g2 (sLt) (g2 sIx (gV 2) (gC (.int 1))) (g2 sIx (gV 2) (gC (.int 2))))) (sEx (gApp 1 (gSet (gTp (gaC (gSet (g2 sIx (gV 2) (gC (.int 1)))) (gaC (gSet (g2 sIx (gV 2) (gC (.int 2)))) (gaN))))))) (sNx)))) (sRet (gV 1)))
def sem_spans_of : List D → OR := runF 3 g_spans_of
/-- trees_here, hand, spans, one, other -/
def g_gaps : Cs → OS :=
  sSeq (sEx (gCall (sem_need_trees) 1 (gaC (gSet (gV 0)) (gaN)))) (sSeq (sSet 2 (gCall (sem_spans_of) 1 (gaC (gSet (gGet' (gV 0) (gV 1) (gTp (gaN)))) (gaN)))) (sRet (gLc [3, 4] (giZ (gSl (gV 2) (goN) (goS (g1 sNeg (gC (.int 1))))) (gSl (gV 2) (goS (gC (.int 1))) (goN))) (tTp (tCons' (tN 3) (tCons' (tN 4) (tNil')))) (noE (gYes)) (noE (gSet (gTp (gaC (gSet (g2 sIx (gV 3) (gC (.int 1)))) (gaC (gSet (g2 sIx (gV 4) (gC (.int 0)))) (gaN)))))))))
def sem_gaps : List D → OR := runF 5 g_gaps
/-- trees_here, marks, hand, first, last, found, running, here, at, tick, step -/
def g_at_once : Cs → OS :=
  sSeq (sEx (gCall (sem_need_trees) 1 (gaC (gSet (gV 0)) (gaN)))) (sSeq (sSet 1 (gLs (gaN))) (sSeq (sFor (giA (gV 0)) (tN 2) (sFor (giA (gCall (sem_spans_of) 1 (gaC (gSet (g2 sIx (gV 0) (gV 2))) (gaN)))) (tTp (tCons' (tN 3) (tCons' (tN 4) (tNil')))) (sEx (gExt 1 (gPk (gLs (gaC (gSet (gTp (gaC (gSet (gV 3)) (gaC (gSet (gC (.int 1))) (gaN))))) (gaC (gSet (gTp (gaC (gSet (gV 4)) (gaC (gSet (g1 sNeg (gC (.int 1)))) (gaN))))) (gaN))))))))) (sSeq (sSet 5 (g2 sMul (gLs (gaC (gSet (gC (.int 0))) (gaN))) (g2 sAdd (g1 sLen (gV 0)) (gC (.int 1))))) (sSeq (sPar2 6 7 (gC (.int 0)) (gC (.int 0))) (sSeq (sFor (giE (g1 sSort2 (gV 1))) (tTp (tCons' (tN 8) (tCons' (tTp (tCons' (tN 9) (tCons' (tN 10) (tNil')))) (tNil')))) (sSeq (sIf (gB (g2 (sCmp fGt) (gV 8) (gC (.int 0)))) (sPut 5 (gSet (gV 6)) (gSet (g2 sSub (g2 sAdd (g2 sIx (gV 5) (gV 6)) (gV 9)) (gV 7)))) (sNx)) (sPar2 6 7 (g2 sAdd (gV 6) (gV 10)) (gV 9)))) (sRet (gV 5)))))))
def sem_at_once : List D → OR := runF 11 g_at_once
/-- calls, one, names, found, name, some, inner -/
def g_folded (self : List D → OR) : Cs → OS :=
  sSeq (sSet 2 (g1 sSortSet (gLc [1] (giA (gV 0)) (tN 1) (noE (gYes)) (noE (gSet (g2 sIx (gV 1) (gC (.int 0)))))))) (sSeq (sSet 3 (gLs (gaN))) (sSeq (sFor (giA (gV 2)) (tN 4) (sSeq (sSet 5 (gLc [1] (giA (gV 0)) (tN 1) (noE (gB (g2 (sEq2) (g2 sIx (gV 1) (gC (.int 0))) (gV 4)))) (noE (gSet (gV 1))))) (sSeq (sSet 6 (gLs (gaN))) (sSeq (sFor (giA (gV 5)) (tN 1) (sEx (gExt 6 (gPk (g2 sIx (gV 1) (gC (.int 3))))))) (sEx (gApp 3 (gSet (gTp (gaC (gSet (gV 4)) (gaC (gSet (g1 sLen (gV 5))) (gaC (gSet (g1 sSum (gLc [1] (giA (gV 5)) (tN 1) (noE (gYes)) (noE (gSet (gCall (sem_own) 1 (gaC (gSet (gV 1)) (gaN)))))))) (gaC (gSet (gCall (self) 1 (gaC (gSet (gV 6)) (gaN)))) (gaN))))))))))))) (sRet (g1 sTupleOf (gV 3)))))
def sem_folded : Nat → List D → OR
  | 0 => fun _ => .stuck
  | n + 1 => runF 7 (g_folded (sem_folded n))
/-- trees_here, some, hand -/
def g_fold : Cs → OS :=
  sSeq (sEx (gCall (sem_need_trees) 1 (gaC (gSet (gV 0)) (gaN)))) (sSeq (sSet 1 (gLs (gaN))) (sSeq (sFor (giA (g1 sSort2 (gV 0))) (tN 2) (sEx (gExt 1 (gPk (g2 sIx (gV 0) (gV 2)))))) (sRet (gCall (sem_folded 6) 1 (gaC (gSet (gV 1)) (gaN))))))
def sem_fold : List D → OR := runF 3 g_fold
/-- thing, one, other -/
def g_is_fold (self : List D → OR) : Cs → OS :=
  sSeq (sIf (gNot (gB (g1 (sIsi "tuple") (gV 0)))) (sRet (gC (.bl false))) (sNx)) (sSeq (sFor (giA (gV 0)) (tN 1) (sSeq (sIf (gOr (gNot (gB (g1 (sIsi "tuple") (gV 1)))) (gOr (gB (g2 (sNe2) (g1 sLen (gV 1)) (gC (.int 4)))) (gOr (gNot (gB (gCall (sem_is_name) 1 (gaC (gSet (g2 sIx (gV 1) (gC (.int 0)))) (gaN))))) (gNot (gB (gCall (self) 1 (gaC (gSet (g2 sIx (gV 1) (gC (.int 3)))) (gaN)))))))) (sRet (gC (.bl false))) (sNx)) (sIf (gOr (gNot (gB (gCall (sem_is_count) 3 (gaC (gSet (g2 sIx (gV 1) (gC (.int 1)))) (gaC (gSet (gC (.int 0))) (gaC (gSet (gC (.int 1000000000))) (gaN))))))) (gNot (gB (gCall (sem_is_count) 3 (gaC (gSet (g2 sIx (gV 1) (gC (.int 2)))) (gaC (gSet (gC (.int 0))) (gaC (gSet (gC (.int 1000000000))) (gaN)))))))) (sRet (gC (.bl false))) (sNx)))) (sRet (g1 sAll (gLc [1, 2] (giZ (gSl (gV 0) (goN) (goS (g1 sNeg (gC (.int 1))))) (gSl (gV 0) (goS (gC (.int 1))) (goN))) (tTp (tCons' (tN 1) (tCons' (tN 2) (tNil')))) (noE (gYes)) (noE (gSet (g2 (sLt) (g2 sIx (gV 1) (gC (.int 0))) (g2 sIx (gV 2) (gC (.int 0))))))))))
def sem_is_fold : Nat → List D → OR
  | 0 => fun _ => .stuck
  | n + 1 => runF 3 (g_is_fold (sem_is_fold n))
/-- thing -/
def g_need_fold : Cs → OS :=
  sIf (gNot (gB (gCall (sem_is_fold 6) 1 (gaC (gSet (gV 0)) (gaN))))) (sNo) (sNx)
def sem_need_fold : List D → OR := runF 1 g_need_fold
/-- one, inner -/
def g_time_of (self : List D → OR) : Cs → OS :=
  sRet (g2 sAdd (g2 sIx (gV 0) (gC (.int 2))) (g1 sSum (gLc [1] (giA (g2 sIx (gV 0) (gC (.int 3)))) (tN 1) (noE (gYes)) (noE (gSet (gCall (self) 1 (gaC (gSet (gV 1)) (gaN))))))))
def sem_time_of : Nat → List D → OR
  | 0 => fun _ => .stuck
  | n + 1 => runF 2 (g_time_of (sem_time_of n))
/-- one, other, first, second, found, name, mine, its, part -/
def g_joined_of (self : List D → OR) : Cs → OS :=
  sSeq (sPar2 2 3 (g1 sDict (gLc [8] (giA (gV 0)) (tN 8) (noE (gYes)) (noE (gSet (gTp (gaC (gSet (g2 sIx (gV 8) (gC (.int 0)))) (gaC (gSet (gV 8)) (gaN)))))))) (g1 sDict (gLc [8] (giA (gV 1)) (tN 8) (noE (gYes)) (noE (gSet (gTp (gaC (gSet (g2 sIx (gV 8) (gC (.int 0)))) (gaC (gSet (gV 8)) (gaN))))))))) (sSeq (sSet 4 (gLs (gaN))) (sSeq (sFor (giA (g1 sSort2 (g2 sAdd (g1 sListOf2 (gV 2)) (gLc [5] (giA (gV 3)) (tN 5) (noE (gB (g2 (sNotIn2) (gV 5) (gV 2)))) (noE (gSet (gV 5))))))) (tN 5) (sSeq (sPar2 6 7 (gGet' (gV 2) (gV 5) (gTp (gaC (gSet (gV 5)) (gaC (gSet (gC (.int 0))) (gaC (gSet (gC (.int 0))) (gaC (gSet (gTp (gaN))) (gaN))))))) (gGet' (gV 3) (gV 5) (gTp (gaC (gSet (gV 5)) (gaC (gSet (gC (.int 0))) (gaC (gSet (gC (.int 0))) (gaC (gSet (gTp (gaN))) (gaN)))))))) (sEx (gApp 4 (gSet (gTp (gaC (gSet (gV 5)) (gaC (gSet (g2 sAdd (g2 sIx (gV 6) (gC (.int 1))) (g2 sIx (gV 7) (gC (.int 1))))) (gaC (gSet (g2 sAdd (g2 sIx (gV 6) (gC (.int 2))) (g2 sIx (gV 7) (gC (.int 2))))) (gaC (gSet (gCall (self) 2 (gaC (gSet (g2 sIx (gV 6) (gC (.int 3)))) (gaC (gSet (g2 sIx (gV 7) (gC (.int 3)))) (gaN))))) (gaN))))))))))) (sRet (g1 sTupleOf (gV 4)))))
def sem_joined_of : Nat → List D → OR
  | 0 => fun _ => .stuck
  | n + 1 => runF 9 (g_joined_of (sem_joined_of n))
/-- one, other -/
def g_joined : Cs → OS :=
  sSeq (sEx (gCall (sem_need_fold) 1 (gaC (gSet (gV 0)) (gaN)))) (sSeq (sEx (gCall (sem_need_fold) 1 (gaC (gSet (gV 1)) (gaN)))) (sRet (gCall (sem_joined_of 6) 2 (gaC (gSet (gV 0)) (gaC (gSet (gV 1)) (gaN))))))
def sem_joined : List D → OR := runF 2 g_joined
/-- some, above, found, name, many, time, inner -/
def g_lines_of (self : List D → OR) : Cs → OS :=
  sSeq (sSet 2 (gLs (gaN))) (sSeq (sFor (giA (gV 0)) (tTp (tCons' (tN 3) (tCons' (tN 4) (tCons' (tN 5) (tCons' (tN 6) (tNil')))))) (sSeq (sEx (gApp 2 (gSet (gTp (gaC (gSet (g2 sAdd (gV 1) (gTp (gaC (gSet (gV 3)) (gaN))))) (gaC (gSet (gV 4)) (gaC (gSet (gV 5)) (gaN)))))))) (sEx (gExt 2 (gPk (gCall (self) 2 (gaC (gSet (gV 6)) (gaC (gSet (g2 sAdd (gV 1) (gTp (gaC (gSet (gV 3)) (gaN))))) (gaN))))))))) (sRet (gV 2)))
def sem_lines_of : Nat → List D → OR
  | 0 => fun _ => .stuck
  | n + 1 => runF 7 (g_lines_of (sem_lines_of n))
/-- some -/
def g_paths : Cs → OS :=
  sSeq (sEx (gCall (sem_need_fold) 1 (gaC (gSet (gV 0)) (gaN)))) (sRet (gCall (sem_lines_of 6) 2 (gaC (gSet (gV 0)) (gaC (gSet (gTp (gaN))) (gaN)))))
def sem_paths : List D → OR := runF 1 g_paths
/-- path, name -/
def g_need_path : Cs → OS :=
  sIf (gOr (gNot (gB (g1 (sIsi "tuple") (gV 0)))) (gOr (gB (g2 (sEq2) (gV 0) (gTp (gaN)))) (gNot (gB (g1 sAll (gLc [1] (giA (gV 0)) (tN 1) (noE (gYes)) (noE (gSet (gCall (sem_is_name) 1 (gaC (gSet (gV 1)) (gaN))))))))))) (sNo) (sNx)
def sem_need_path : List D → OR := runF 2 g_need_path
/-- some, path, one -/
def g_part_at (self : List D → OR) : Cs → OS :=
  sSeq (sFor (giA (gV 0)) (tN 2) (sIf (gB (g2 (sEq2) (g2 sIx (gV 2) (gC (.int 0))) (g2 sIx (gV 1) (gC (.int 0))))) (sRet (gIf (gB (g2 (sEq2) (g1 sLen (gV 1)) (gC (.int 1)))) (gV 2) (gCall (self) 2 (gaC (gSet (g2 sIx (gV 2) (gC (.int 3)))) (gaC (gSet (gSl (gV 1) (goS (gC (.int 1))) (goN))) (gaN)))))) (sNx))) (sRet (gC .non))
def sem_part_at : Nat → List D → OR
  | 0 => fun _ => .stuck
  | n + 1 => runF 3 (g_part_at (sem_part_at n))
/-- some, path, one -/
def g_times_at : Cs → OS :=
  sSeq (sEx (gCall (sem_need_fold) 1 (gaC (gSet (gV 0)) (gaN)))) (sSeq (sEx (gCall (sem_need_path) 1 (gaC (gSet (gV 1)) (gaN)))) (sSeq (sSet 2 (gCall (sem_part_at 6) 2 (gaC (gSet (gV 0)) (gaC (gSet (gV 1)) (gaN))))) (sRet (gIf (gB (g2 (sIs) (gV 2) (gC .non))) (gTp (gaC (gSet (gC (.int 0))) (gaC (gSet (gC (.int 0))) (gaC (gSet (gC (.int 0))) (gaN))))) (gTp (gaC (gSet (g2 sIx (gV 2) (gC (.int 1)))) (gaC (gSet (g2 sIx (gV 2) (gC (.int 2)))) (gaC (gSet (gCall (sem_time_of 6) 1 (gaC (gSet (gV 2)) (gaN)))) (gaN)))))))))
def sem_times_at : List D → OR := runF 3 g_times_at
/-- one, other, path, first, second, found, less, many, time -/
def g_apart : Cs → OS :=
  sSeq (sEx (gCall (sem_need_fold) 1 (gaC (gSet (gV 0)) (gaN)))) (sSeq (sEx (gCall (sem_need_fold) 1 (gaC (gSet (gV 1)) (gaN)))) (sSeq (sSet 3 (g1 sDictT (gLc [2, 7, 8] (giA (gCall (sem_lines_of 6) 2 (gaC (gSet (gV 0)) (gaC (gSet (gTp (gaN))) (gaN))))) (tTp (tCons' (tN 2) (tCons' (tN 7) (tCons' (tN 8) (tNil'))))) (noE (gYes)) (noE (gSet (gTp (gaC (gSet (gV 2)) (gaC (gSet (gV 8)) (gaN))))))))) (sSeq (sSet 4 (g1 sDictT (gLc [2, 7, 8] (giA (gCall (sem_lines_of 6) 2 (gaC (gSet (gV 1)) (gaC (gSet (gTp (gaN))) (gaN))))) (tTp (tCons' (tN 2) (tCons' (tN 7) (tCons' (tN 8) (tNil'))))) (noE (gYes)) (noE (gSet (gTp (gaC (gSet (gV 2)) (gaC (gSet (gV 8)) (gaN))))))))) (sSeq (sSet 5 (gLs (gaN))) (sSeq (sFor (giA (g1 sSort2 (g2 sAdd (g1 sListOf2 (gV 3)) (gLc [2] (giA (gV 4)) (tN 2) (noE (gB (g2 (sNotIn2) (gV 2) (gV 3)))) (noE (gSet (gV 2))))))) (tN 2) (sSeq (sSet 6 (g2 sSub (gGet' (gV 4) (gV 2) (gC (.int 0))) (gGet' (gV 3) (gV 2) (gC (.int 0))))) (sIf (gB (g2 (sNe2) (gV 6) (gC (.int 0)))) (sEx (gApp 5 (gSet (gTp (gaC (gSet (gV 2)) (gaC (gSet (gV 6)) (gaN))))))) (sNx)))) (sRet (gV 5)))))))
def sem_apart : List D → OR := runF 9 g_apart
/-- calls, by, times, found, name, first, last, inner -/
def g_law_moved (self : List D → OR) : Cs → OS :=
  sSeq (sSet 3 (gLs (gaN))) (sSeq (sFor (giA (gV 0)) (tTp (tCons' (tN 4) (tCons' (tN 5) (tCons' (tN 6) (tCons' (tN 7) (tNil')))))) (sEx (gApp 3 (gSet (gTp (gaC (gSet (gV 4)) (gaC (gSet (g2 sAdd (g2 sMul (gV 5) (gV 2)) (gV 1))) (gaC (gSet (g2 sAdd (g2 sMul (gV 6) (gV 2)) (gV 1))) (gaC (gSet (gCall (self) 3 (gaC (gSet (gV 7)) (gaC (gSet (gV 1)) (gaC (gSet (gV 2)) (gaN)))))) (gaN)))))))))) (sRet (g1 sTupleOf (gV 3))))
def sem_law_moved : Nat → List D → OR
  | 0 => fun _ => .stuck
  | n + 1 => runF 8 (g_law_moved (sem_law_moved n))
/-- some, other, times, name, due, rows, count, whole_time, time, path, ticks, caller -/
def g_law_same_right : Cs → OS :=
  sSeq (sSet 4 (gLc [3, 6, 7, 8] (giA (gCall (sem_table) 1 (gaC (gSet (gV 0)) (gaN)))) (tTp (tCons' (tN 3) (tCons' (tN 6) (tCons' (tN 7) (tCons' (tN 8) (tNil')))))) (noE (gYes)) (noE (gSet (gTp (gaC (gSet (gV 3)) (gaC (gSet (gV 6)) (gaC (gSet (g2 sMul (gV 7) (gV 2))) (gaC (gSet (g2 sMul (gV 8) (gV 2))) (gaN)))))))))) (sSeq (sIf (gOr (gB (g2 (sNe2) (gCall (sem_table) 1 (gaC (gSet (gV 1)) (gaN))) (gV 4))) (gB (g2 (sNe2) (gCall (sem_at_once) 1 (gaC (gSet (gV 1)) (gaN))) (gLc [10] (giA (gCall (sem_at_once) 1 (gaC (gSet (gV 0)) (gaN)))) (tN 10) (noE (gYes)) (noE (gSet (g2 sMul (gV 10) (gV 2)))))))) (sRet (gC (.bl false))) (sNx)) (sSeq (sFor (giA (gLs (gaC (gSet (gC (.str "a"))) (gaC (gSet (gC (.str "b"))) (gaC (gSet (gC (.str "work"))) (gaN)))))) (tN 3) (sIf (gB (g2 (sNe2) (gCall (sem_callers) 2 (gaC (gSet (gV 1)) (gaC (gSet (gV 3)) (gaN)))) (gLc [11, 6, 8] (giA (gCall (sem_callers) 2 (gaC (gSet (gV 0)) (gaC (gSet (gV 3)) (gaN))))) (tTp (tCons' (tN 11) (tCons' (tN 6) (tCons' (tN 8) (tNil'))))) (noE (gYes)) (noE (gSet (gTp (gaC (gSet (gV 11)) (gaC (gSet (gV 6)) (gaC (gSet (g2 sMul (gV 8) (gV 2))) (gaN)))))))))) (sRet (gC (.bl false))) (sNx))) (sSeq (sSet 5 (gLc [9, 6, 8] (giA (gCall (sem_paths) 1 (gaC (gSet (gCall (sem_fold) 1 (gaC (gSet (gV 0)) (gaN)))) (gaN)))) (tTp (tCons' (tN 9) (tCons' (tN 6) (tCons' (tN 8) (tNil'))))) (noE (gYes)) (noE (gSet (gTp (gaC (gSet (gV 9)) (gaC (gSet (gV 6)) (gaC (gSet (g2 sMul (gV 8) (gV 2))) (gaN))))))))) (sRet (gAndV (g2 (sEq2) (gCall (sem_paths) 1 (gaC (gSet (gCall (sem_fold) 1 (gaC (gSet (gV 1)) (gaN)))) (gaN))) (gV 5)) (g2 (sEq2) (gCall (sem_deepest) 1 (gaC (gSet (gV 1)) (gaN))) (gCall (sem_deepest) 1 (gaC (gSet (gV 0)) (gaN)))))))))
def sem_law_same_right : List D → OR := runF 12 g_law_same_right
/-! ### calls as a plain tree: first child, next -/
inductive Tr where
  | nil
  | cons (n : Str) (a b : Int) (i r : Tr)
def encF : Tr → List D
  | .nil => []
  | .cons n a b i r => .tup [.str n, .int a, .int b, .tup (encF i)] :: encF r
structure Nd where
  n : Str
  a : Int
  b : Int
  i : Tr
def encN (x : Nd) : D := .tup [.str x.n, .int x.a, .int x.b, .tup (encF x.i)]
def kids : Tr → List Nd
  | .nil => []
  | .cons n a b i r => ⟨n, a, b, i⟩ :: kids r
theorem encF_kids : ∀ t, encF t = (kids t).map encN
  | .nil => rfl
  | .cons n a b i r => by rw [encF, kids, List.map_cons, encF_kids r]; rfl
def depth : Tr → Nat
  | .nil => 0
  | .cons _ _ _ i r => max (depth i + 1) (depth r)
def cnt : Tr → Nat
  | .nil => 0
  | .cons _ _ _ i r => 1 + cnt i + cnt r
theorem kid_depth : ∀ {t : Tr} {x : Nd}, x ∈ kids t → depth x.i < depth t
  | .cons n a b i r, x, h => by
    rw [depth]
    rcases List.mem_cons.mp h with rfl | h
    · show depth i < _; omega
    · have := kid_depth h; omega
theorem kid_cnt : ∀ {t : Tr} {x : Nd}, x ∈ kids t → cnt x.i < cnt t
  | .cons n a b i r, x, h => by
    rw [cnt]
    rcases List.mem_cons.mp h with rfl | h
    · show cnt i < _; omega
    · have := kid_cnt h; omega
theorem kids_len : ∀ t : Tr, (kids t).length ≤ cnt t
  | .nil => Nat.le_refl _
  | .cons n a b i r => by rw [kids, cnt, List.length_cons]; have := kids_len r; omega
/-- is_name says yes -/
def NameOk (n : Str) : Prop := sem_is_name [.str n] = .ret (.f (.bl true)) ∧ PyData.canLay0 (.str n) = true
def Good (lo hi : Int) : Tr → Prop
  | .nil => True
  | .cons n a b i r => NameOk n ∧ lo ≤ a ∧ a ≤ b ∧ b ≤ hi ∧ Good a b i ∧ Good b hi r
theorem Good.wider : ∀ {t : Tr} {lo lo' hi hi' : Int}, Good lo hi t → lo' ≤ lo → hi ≤ hi' → Good lo' hi' t
  | .nil, _, _, _, _, _, _, _ => trivial
  | .cons _ _ _ _ _, _, _, _, _, ⟨h0, h1, h2, h3, h4, h5⟩, a, b => ⟨h0, by omega, h2, by omega, h4, h5.wider (by omega) b⟩
theorem m_count (i lo hi : Int) : sem_is_count [.int i, .int lo, .int hi] = .ret (.f (.bl (decide (lo ≤ i) && decide (i ≤ hi)))) := by
  unfold sem_is_count g_is_count
  walk_at "ev"
  by_cases h : lo ≤ i <;> simp [h] <;> rfl
theorem m_countT {i lo hi : Int} (h : lo ≤ i) (h' : i ≤ hi) : sem_is_count [.int i, .int lo, .int hi] = .ret (.f (.bl true)) := by rw [m_count, decide_eq_true h, decide_eq_true h']; rfl
theorem m_whole (n : Str) (a b : Int) (i : D) : sem_whole [.tup [.str n, .int a, .int b, i]] = .ret (.f (.int (b - a))) := by
  unfold sem_whole g_whole
  walk_at "ev"
theorem m_are (n : Nat) : ∀ (t : Tr) (lo hi : Int), Good lo hi t → depth t < n → sem_are_calls n [.tup (encF t), .int lo, .int hi] = .ret (.f (.bl true)) := by
  induction n with
  | zero => intro t lo hi _ h; omega
  | succ n ih =>
    intro t lo hi g hd
    have go : ∀ (t : Tr) (lo : Int) (T : Cell) (c : Cell), Good lo hi t → depth t ≤ n → ∃ lo' c', forL (tN 3) (sSeq (sIf (gOr (gNot (gB (g1 (sIsi "tuple") (gV 3)))) (gOr (gB (g2 (sNe2) (g1 sLen (gV 3)) (gC (.int 4)))) (gOr (gNot (gB (gCall (sem_is_name) 1 (gaC (gSet (g2 sIx (gV 3) (gC (.int 0)))) (gaN))))) (gNot (gB (gCall (sem_is_count) 3 (gaC (gSet (g2 sIx (gV 3) (gC (.int 1)))) (gaC (gSet (gV 1)) (gaC (gSet (gV 2)) (gaN)))))))))) (sRet (gC (.bl false))) (sNx)) (sSeq (sIf (gOr (gNot (gB (gCall (sem_is_count) 3 (gaC (gSet (g2 sIx (gV 3) (gC (.int 2)))) (gaC (gSet (g2 sIx (gV 3) (gC (.int 1)))) (gaC (gSet (gV 2)) (gaN))))))) (gNot (gB (gCall (sem_are_calls n) 3 (gaC (gSet (g2 sIx (gV 3) (gC (.int 3)))) (gaC (gSet (g2 sIx (gV 3) (gC (.int 1)))) (gaC (gSet (g2 sIx (gV 3) (gC (.int 2)))) (gaN)))))))) (sRet (gC (.bl false))) (sNx)) (sSet 1 (g2 sIx (gV 3) (gC (.int 2)))))) (encF t) [T, .frz (.int lo), .frz (.int hi), c] = .nx [T, .frz (.int lo'), .frz (.int hi), c'] := by
      intro t
      induction t with
      | nil => intro lo T c _ _; exact ⟨lo, c, rfl⟩
      | cons nm a b i r _ ih2 =>
        intro lo T c g hd
        obtain ⟨g0, g1, g2, g3, g4, g5⟩ := g
        rw [depth] at hd
        have e0 : sem_is_name [.str nm] = .ret (.f (.bl true)) := g0.1
        have e1 := m_countT g1 (show a ≤ hi by omega)
        have e2 := m_countT g2 g3
        have e3 := ih i a b g4 (by omega)
        obtain ⟨lo', c', e4⟩ := ih2 b T (.frz (encN ⟨nm, a, b, i⟩)) g5 (by omega)
        refine ⟨lo', c', ?_⟩
        unfold encN at e4
        rw [← e4, encF]
        push_cast [e0, e1, e2, e3]
    obtain ⟨lo', c', e⟩ := go t lo (.frz (.tup (encF t))) .un g (by omega)
    unfold sem_are_calls g_are_calls
    walk_at "ev"
    rw [e]
    walk_at "ev"

/-! ### a dict of hands -/
def encH (hs : List (Int × Tr)) : List (Key × D) := hs.map fun p => (.inl p.1, .tup (encF p.2))
theorem look_H {h : Int} {t : Tr} : ∀ {hs : List (Int × Tr)}, (hs.map (·.1)).Nodup → (h, t) ∈ hs → look (encH hs) (.inl h) = some (.tup (encF t))
  | (h', t') :: hs, nd, m => by
    rw [List.map_cons, List.nodup_cons] at nd
    rcases List.mem_cons.mp m with e | m
    · cases e; simp [look, encH]
    · have ne : h' ≠ h := fun z => nd.1 (List.mem_map.mpr ⟨(h, t), m, z.symm⟩)
      have := look_H nd.2 m
      unfold look encH at this ⊢
      rw [List.map_cons, List.find?_cons]
      have e : decide (((Sum.inl h' : Key), D.tup (encF t')).1 = Sum.inl h) = false := by simp [ne]
      dsimp only at e ⊢
      rw [e]
      exact this
theorem ix_H {h : Int} {t : Tr} {hs : List (Int × Tr)} (nd : (hs.map (·.1)).Nodup) (m : (h, t) ∈ hs) : sIx (.dK (encH hs)) (.int h) = some (.f (.tup (encF t))) := e_ixK rfl (look_H nd m)
structure Hands (hs : List (Int × Tr)) : Prop where
  nd : (hs.map (·.1)).Nodup
  rng : ∀ p ∈ hs, 1 ≤ p.1 ∧ p.1 ≤ 4
  good : ∀ p ∈ hs, Good 0 1000000 p.2
  deep : ∀ p ∈ hs, depth p.2 ≤ 4
  small : ∀ p ∈ hs, cnt p.2 ≤ 120
  few : hs.length ≤ 4
theorem keys_H (hs : List (Int × Tr)) : (encH hs).map (fun e => kD e.1) = hs.map fun p => .int p.1 := by unfold encH; rw [List.map_map]; rfl
theorem all_true {β : Type} (xs : List β) : sAll (.lst (xs.map fun _ => D.bl true)) = some (.f (.bl true)) := by
  have e : (xs.map fun _ => D.bl true) = (xs.map fun _ => true).map D.bl := by rw [List.map_map]; rfl
  rw [e, e_all]
  congr 3
  simp
theorem m_need {hs : List (Int × Tr)} (H : Hands hs) : sem_need_trees [.dK (encH hs)] = .ret (.f .non) := by
  have hl : hs.length ≤ 16777216 := by have := H.few; omega
  unfold sem_need_trees g_need_trees
  push_cast [keys_H]
  rw [lcL_one (fun p : Int × Tr => .int p.1) (fun _ => .bl true) hs rfl rfl (fun x hx => ?_) hl]
  · push_cast [all_true, keys_H]
    rw [lcL_one (fun p : Int × Tr => .int p.1) (fun _ => .bl true) hs rfl rfl (fun x hx => ?_) hl]
    · push_cast [all_true]
    · have e := m_are 6 x.2 0 1000000 (H.good x hx) (by have := H.deep x hx; omega)
      push_cast [ix_H H.nd (show (x.1, x.2) ∈ hs from hx), e]
  · push_cast [m_countT (H.rng x hx).1 (H.rng x hx).2]
theorem nd_enc (x : Nd) : encN x = .tup [.str x.n, .int x.a, .int x.b, .tup (encF x.i)] := rfl
def wholes : Tr → Int
  | .nil => 0
  | .cons _ a b _ r => (b - a) + wholes r
theorem wholes_kids : ∀ t, ((kids t).map fun x => x.b - x.a).sum = wholes t
  | .nil => rfl
  | .cons _ a b _ r => by rw [kids, List.map_cons, List.sum_cons, wholes_kids r]; rfl
theorem m_own {n : Str} {a b : Int} {i : Tr} (hi : cnt i ≤ 120) : sem_own [.tup [.str n, .int a, .int b, .tup (encF i)]] = .ret (.f (.int (b - a - wholes i))) := by
  unfold sem_own g_own
  push_cast [m_whole]
  rw [encF_kids, lcL_one encN (fun x => .int (x.b - x.a)) (kids i) rfl rfl (fun x hx => ?_) (by have := kids_len i; omega)]
  · have e : ((kids i).map fun x => D.int (x.b - x.a)) = ((kids i).map fun x => x.b - x.a).map D.int := by rw [List.map_map]; rfl
    push_cast [e, e_sum, wholes_kids]
  · unfold encN
    push_cast [m_whole]
def allN : Tr → List Nd
  | .nil => []
  | .cons n a b i r => ⟨n, a, b, i⟩ :: (allN i ++ allN r)
theorem allN_len : ∀ t, (allN t).length = cnt t
  | .nil => rfl
  | .cons n a b i r => by rw [allN, cnt, List.length_cons, List.length_append, allN_len i, allN_len r]; omega
def allK (xs : List Nd) : List Nd := xs.flatMap fun x => x :: allN x.i
theorem allK_kids : ∀ t, allK (kids t) = allN t
  | .nil => rfl
  | .cons n a b i r => by
    rw [kids, allN, ← allK_kids r]
    rfl
theorem allK_pre {t : Tr} {pre post : List Nd} (e : kids t = pre ++ post) : (allK pre).length ≤ cnt t := by
  rw [← allN_len, ← allK_kids, e]
  unfold allK
  rw [List.flatMap_append, List.length_append]
  omega
theorem sz_ok {n : Nat} (h : n ≤ 16777216) : sz n = true := decide_eq_true h
theorem m_all (n : Nat) : ∀ (t : Tr), depth t < n → cnt t ≤ 120 → sem_all_calls n [.tup (encF t)] = .ret (.t (.lst ((allN t).map encN))) := by
  induction n with
  | zero => intro t h; omega
  | succ n ih =>
    intro t hd hc
    unfold sem_all_calls g_all_calls
    push_cast [show (0 : Nat) ≤ lineN from Nat.zero_le _, encF_kids]
    refine fin_for encN (fun pre post env => ∃ c, env = [.frz (.tup ((kids t).map encN)), .own (.lst ((allK pre).map encN)), c]) (kids t) _ ⟨_, rfl⟩ ?_ ?_
    · rintro pre x post env e ⟨c, rfl⟩
      have hx : x ∈ kids t := by rw [e]; simp
      refine ⟨_, rfl, ?_⟩
      have e1 := ih x.i (by have := kid_depth hx; omega) (by have := kid_cnt hx; omega)
      have e2 : (allK (pre ++ [x])).length ≤ cnt t := allK_pre (post := post) (by rw [e, List.append_assoc]; rfl)
      have e3 : allK (pre ++ [x]) = allK pre ++ ([x] ++ allN x.i) := by unfold allK; rw [List.flatMap_append]; simp
      rw [e3, List.length_append, List.length_append, List.length_singleton] at e2
      push_cast [nd_enc x, e1, List.length_map, List.length_append, sz_ok (show (allK pre).length + 1 ≤ 16777216 by omega), sz_ok (show (allK pre).length + 1 + (allN x.i).length ≤ 16777216 by omega)]
      refine ⟨.frz (encN x), ?_⟩
      rw [e3, List.map_append, List.map_append, List.append_assoc]
      rfl
    · rintro env ⟨c, rfl⟩
      push_cast [allK_kids]

def path : Tr → Int → List Str
  | .nil, _ => []
  | .cons n a b i r, k => if a ≤ k ∧ k < b then n :: path i k else path r k
theorem path_len : ∀ (t : Tr) (k : Int), (path t k).length ≤ depth t
  | .nil, _ => Nat.le_refl _
  | .cons n a b i r, k => by
    rw [path, depth]
    have h1 := path_len i k
    have h2 := path_len r k
    split
    · rw [List.length_cons]; omega
    · omega
theorem m_stack (n : Nat) : ∀ (t : Tr) (k : Int), depth t < n → n ≤ 100 → sem_stack_in n [.tup (encF t), .int k] = .ret (.t (.lst ((path t k).map .str))) := by
  induction n with
  | zero => intro t k h; omega
  | succ n ih =>
    intro t k hd hn
    unfold sem_stack_in g_stack_in
    push_cast []
    have go : ∀ (t : Tr) (T c1 c2 c3 c4 : Cell), depth t < n + 1 → finR ((forL (tTp (tCons' (tN 2) (tCons' (tN 3) (tCons' (tN 4) (tCons' (tN 5) tNil'))))) (sIf (gB (gCh fLe fLt (gV 3) (gV 1) (gV 4))) (sRet (g2 sAdd (gLs (gaC (gSet (gV 2)) gaN)) (gCall (sem_stack_in n) 2 (gaC (gSet (gV 5)) (gaC (gSet (gV 1)) gaN))))) sNx) (encF t) [T, .frz (.int k), c1, c2, c3, c4]).seq (sRet (gLs gaN))) = .ret (.t (.lst ((path t k).map .str))) := by
      intro t
      induction t with
      | nil =>
        intro T c1 c2 c3 c4 _
        push_cast [encF, path, show (0 : Nat) ≤ lineN from Nat.zero_le _]
      | cons nm a b i r _ ih2 =>
        intro T c1 c2 c3 c4 hd
        rw [depth] at hd
        rw [path]
        by_cases h1 : a ≤ k
        · by_cases h2 : k < b
          · have hl := path_len i k
            have hz : (path i k).length + 1 ≤ 16777216 := by omega
            push_cast [encF, h1, h2, ih i k (by omega) (by omega), show (1 : Nat) ≤ lineN by decide, and_self, e_cat (show [D.str nm].length + ((path i k).map D.str).length ≤ 16777216 by rw [List.length_map, List.length_singleton]; omega)]
          · push_cast [encF, h1, h2, and_false]
            exact ih2 _ _ _ _ _ (by omega)
        · push_cast [encF, h1, false_and]
          exact ih2 _ _ _ _ _ (by omega)
    exact go t _ _ _ _ _ hd
theorem m_tick {k : Int} (h : 0 ≤ k) (h' : k ≤ 1000000) : sem_need_tick [.int k] = .ret (.f .non) := by
  unfold sem_need_tick g_need_tick
  push_cast [m_countT h h']
theorem m_hand {hs : List (Int × Tr)} {h : Int} {t : Tr} (H : Hands hs) (m : (h, t) ∈ hs) : sem_need_hand [.dK (encH hs), .int h] = .ret (.f .non) := by
  have e : sNotIn (.int h) (.dK (encH hs)) = some (.f (.bl false)) := by
    show (isIn _ _).map _ = _
    have : isIn (.int h) (.dK (encH hs)) = some true := by
      show (dget (.dK (encH hs)) (.int h)).map _ = _
      show (some (look (encH hs) (.inl h))).map _ = _
      rw [look_H H.nd m]
      rfl
    rw [this]
    rfl
  have r := H.rng _ m
  unfold sem_need_hand g_need_hand
  push_cast [m_need H, m_countT (show 1 ≤ h from r.1) (show h ≤ 4 from r.2), e]
theorem m_stackAt {hs : List (Int × Tr)} {h k : Int} {t : Tr} (H : Hands hs) (m : (h, t) ∈ hs) (h0 : 0 ≤ k) (h1 : k ≤ 1000000) : sem_stack_at [.dK (encH hs), .int h, .int k] = .ret (.t (.lst ((path t k).map .str))) := by
  unfold sem_stack_at g_stack_at
  push_cast [m_hand H m, m_tick h0 h1, ix_H H.nd m, m_stack 6 t k (by have := H.deep _ m; dsimp only at this; omega) (by omega)]
theorem fold_depth : ∀ (t : Tr) (m : Int), 0 ≤ m → ((kids t).map fun x => 1 + (depth x.i : Int)).foldl (fun m x => if x > m then x else m) m = max m (depth t : Int)
  | .nil, m, h => by
    show m = max m (0 : Int)
    omega
  | .cons n a b i r, m, h => by
    rw [kids, List.map_cons, List.foldl_cons, fold_depth r _ (by split <;> omega), depth]
    dsimp only
    split <;> omega
theorem maxI_depth (t : Tr) : maxI (0 :: (kids t).map fun x => 1 + (depth x.i : Int)) = depth t := by
  show List.foldl _ 0 _ = _
  rw [fold_depth t 0 (Int.le_refl _)]
  omega
theorem m_depth (n : Nat) : ∀ (t : Tr), depth t < n → cnt t ≤ 120 → sem_depth_of n [.tup (encF t)] = .ret (.f (.int (depth t : Int))) := by
  induction n with
  | zero => intro t h; omega
  | succ n ih =>
    intro t hd hc
    have hl := kids_len t
    unfold sem_depth_of g_depth_of
    push_cast [encF_kids, show (1 : Nat) ≤ lineN by decide]
    rw [lcL_one encN (fun x => .int (1 + (depth x.i : Int))) (kids t) rfl rfl (fun x hx => ?_) (by omega)]
    · have e : ([D.int 0] ++ (kids t).map fun x => D.int (1 + (depth x.i : Int))) = (0 :: (kids t).map fun x => 1 + (depth x.i : Int)).map D.int := by rw [List.map_cons, List.map_map]; rfl
      push_cast [e_cat (show [D.int 0].length + ((kids t).map fun x => D.int (1 + (depth x.i : Int))).length ≤ 16777216 by rw [List.length_map, List.length_singleton]; omega)]
      rw [show (D.int 0 :: (kids t).map fun x => D.int (1 + (depth x.i : Int))) = (0 :: (kids t).map fun x => 1 + (depth x.i : Int)).map D.int from e, e_max (by simp), maxI_depth]
      rfl
    · push_cast [nd_enc x, ih x.i (by have := kid_depth hx; omega) (by have := kid_cnt hx; omega)]
theorem maxI_ge {n : Int} {ns : List Int} (h : n ∈ ns) : n ≤ maxI ns := by
  cases ns with
  | nil => cases h
  | cons m ns =>
    have f := maxI_fold ns m
    rcases List.mem_cons.mp h with rfl | h
    · exact f.1
    · exact f.2.1 n h
def deepI (hs : List (Int × Tr)) : Int := maxI (0 :: hs.map fun p => (depth p.2 : Int))
theorem m_deepest {hs : List (Int × Tr)} (H : Hands hs) : sem_deepest [.dK (encH hs)] = .ret (.f (.int (deepI hs))) := by
  have hl := H.few
  unfold sem_deepest g_deepest
  push_cast [m_need H, keys_H, show (1 : Nat) ≤ lineN by decide]
  rw [lcL_one (fun p : Int × Tr => .int p.1) (fun p => .int (depth p.2 : Int)) hs rfl rfl (fun x hx => ?_) (by omega)]
  · have e : ([D.int 0] ++ hs.map fun p => D.int (depth p.2 : Int)) = (0 :: hs.map fun p => (depth p.2 : Int)).map D.int := by rw [List.map_cons, List.map_map]; rfl
    push_cast [e_cat (show [D.int 0].length + (hs.map fun p => D.int (depth p.2 : Int)).length ≤ 16777216 by rw [List.length_map, List.length_singleton]; omega)]
    rw [show (D.int 0 :: hs.map fun p => D.int (depth p.2 : Int)) = (0 :: hs.map fun p => (depth p.2 : Int)).map D.int from e, e_max (by simp)]
    rfl
  · push_cast [ix_H H.nd (show (x.1, x.2) ∈ hs from hx), m_depth 6 x.2 (by have := H.deep x hx; omega) (H.small x hx)]
def encP (p : Str × Int) : D := .tup [.str p.1, .int p.2]
def outN : Tr → List Str → List (Str × Int)
  | .nil, _ => []
  | .cons n a b i r, ar => (if n ∈ ar then [] else [(n, b - a)]) ++ outN i (ar ++ [n]) ++ outN r ar
theorem outN_len : ∀ (t : Tr) (ar : List Str), (outN t ar).length ≤ cnt t
  | .nil, _ => Nat.le_refl _
  | .cons n a b i r, ar => by
    rw [outN, cnt, List.length_append, List.length_append]
    have h1 := outN_len i (ar ++ [n])
    have h2 := outN_len r ar
    split
    · rw [List.length_nil]; omega
    · rw [List.length_singleton]; omega
def outK (xs : List Nd) (ar : List Str) : List (Str × Int) := xs.flatMap fun x => (if x.n ∈ ar then [] else [(x.n, x.b - x.a)]) ++ outN x.i (ar ++ [x.n])
theorem outK_kids : ∀ t ar, outK (kids t) ar = outN t ar
  | .nil, _ => rfl
  | .cons n a b i r, ar => by
    rw [kids, outN, ← outK_kids r]
    rfl
theorem outK_pre {t : Tr} {pre post : List Nd} {ar : List Str} (e : kids t = pre ++ post) : (outK pre ar).length ≤ cnt t := by
  refine Nat.le_trans ?_ (outN_len t ar)
  rw [← outK_kids, e]
  unfold outK
  rw [List.flatMap_append, List.length_append]
  omega
theorem m_outer (n : Nat) : ∀ (t : Tr) (ar : List Str), depth t < n → n + ar.length ≤ 100 → cnt t ≤ 120 → sem_outer n [.tup (encF t), .lst (ar.map .str)] = .ret (.t (.lst ((outN t ar).map encP))) := by
  induction n with
  | zero => intro t ar h; omega
  | succ n ih =>
    intro t ar hd ha hc
    unfold sem_outer g_outer
    push_cast [show (0 : Nat) ≤ lineN from Nat.zero_le _, encF_kids]
    refine fin_for encN (fun pre post env => ∃ c, env = [.frz (.tup ((kids t).map encN)), .frz (.lst (ar.map .str)), .own (.lst ((outK pre ar).map encP)), c]) (kids t) _ ⟨_, rfl⟩ ?_ ?_
    · rintro pre x post env e ⟨c, rfl⟩
      have hx : x ∈ kids t := by rw [e]; simp
      refine ⟨_, rfl, ?_⟩
      have e1 := ih x.i (ar ++ [x.n]) (by have := kid_depth hx; omega) (by rw [List.length_append, List.length_singleton]; omega) (by have := kid_cnt hx; omega)
      have e2 : (outK (pre ++ [x]) ar).length ≤ cnt t := outK_pre (post := post) (by rw [e, List.append_assoc]; rfl)
      have e3 : outK (pre ++ [x]) ar = outK pre ar ++ ((if x.n ∈ ar then [] else [(x.n, x.b - x.a)]) ++ outN x.i (ar ++ [x.n])) := by unfold outK; rw [List.flatMap_append]; simp
      rw [e3, List.length_append, List.length_append] at e2
      rw [List.map_append] at e1
      have e4 := e_cat (xs := ar.map D.str) (ys := [D.str x.n]) (by rw [List.length_map, List.length_singleton]; omega)
      by_cases h : x.n ∈ ar
      · rw [if_pos h, List.length_nil] at e2
        push_cast [nd_enc x, e_notInT, h, e4, show (1 : Nat) ≤ lineN by decide]
        simp only [List.map_cons, List.map_nil] at e1
        push_cast [e1, List.length_map, sz_ok (show (outK pre ar).length + (outN x.i (ar ++ [x.n])).length ≤ 16777216 by omega)]
        refine ⟨.frz (encN x), ?_⟩
        rw [e3, if_pos h, List.nil_append, List.map_append]
        rfl
      · rw [if_neg h, List.length_singleton] at e2
        simp only [List.map_cons, List.map_nil] at e1
        push_cast [nd_enc x, e_notInT, h, e4, show (1 : Nat) ≤ lineN by decide, m_whole, show (2 : Nat) ≤ lineN by decide, List.length_map, List.length_append, sz_ok (show (outK pre ar).length + 1 ≤ 16777216 by omega), e1, sz_ok (show (outK pre ar).length + 1 + (outN x.i (ar ++ [x.n])).length ≤ 16777216 by omega)]
        refine ⟨.frz (encN x), ?_⟩
        rw [e3, if_neg h, List.map_append, List.map_append, List.append_assoc]
        rfl
    · rintro env ⟨c, rfl⟩
      push_cast [outK_kids]

def ordH (hs : List (Int × Tr)) : List (Int × Tr) := hs.mergeSort fun p q => PySem.W.dataLe false pyD (.int p.1) (.int q.1)
theorem ordH_perm (hs : List (Int × Tr)) : (ordH hs).Perm hs := List.mergeSort_perm _ _
theorem ordH_keys (hs : List (Int × Tr)) : ordI (hs.map (·.1)) = (ordH hs).map (·.1) := by
  unfold ordI ordH
  exact (PySem.W.sort_maps (r := fun p q : Int × Tr => PySem.W.dataLe false pyD (.int p.1) (.int q.1)) (s := fun a b => PySem.W.dataLe false pyD (.int a) (.int b)) (fun p : Int × Tr => p.1) (fun _ _ _ _ => rfl)).symm
theorem sort_H (hs : List (Int × Tr)) : sSorted (.dK (encH hs)) = some (.t (.lst ((ordH hs).map fun p => .int p.1))) := by
  show srtItems ((encH hs).map fun e => kD e.1) = _
  rw [keys_H]
  have e : (hs.map fun p => D.int p.1) = (hs.map (·.1)).map D.int := by rw [List.map_map]; rfl
  rw [e, e_srtI, ordH_keys, List.map_map]
  rfl
def evN (hs : List (Int × Tr)) : List Nd := hs.flatMap fun p => allN p.2
theorem evN_len : ∀ (hs : List (Int × Tr)), (∀ p ∈ hs, cnt p.2 ≤ 120) → (evN hs).length ≤ 120 * hs.length
  | [], _ => Nat.le_refl _
  | p :: hs, h => by
    have := evN_len hs fun q hq => h q (List.mem_cons_of_mem _ hq)
    have h1 := h p List.mem_cons_self
    show (allN p.2 ++ evN hs).length ≤ _
    rw [List.length_append, allN_len, List.length_cons]
    omega
theorem m_every {hs : List (Int × Tr)} (H : Hands hs) : sem_every [.dK (encH hs)] = .ret (.t (.lst ((evN (ordH hs)).map encN))) := by
  have hp := ordH_perm hs
  have hl : (ordH hs).length ≤ 4 := by rw [hp.length_eq]; exact H.few
  unfold sem_every g_every
  push_cast [show (0 : Nat) ≤ lineN from Nat.zero_le _, sort_H]
  refine fin_for (fun p : Int × Tr => .int p.1) (fun pre post env => ∃ c, env = [.frz (.dK (encH hs)), .own (.lst ((evN pre).map encN)), c]) (ordH hs) _ ⟨_, rfl⟩ ?_ ?_
  · rintro pre x post env e ⟨c, rfl⟩
    have hx : x ∈ hs := hp.mem_iff.mp (by rw [e]; simp)
    refine ⟨_, rfl, ?_⟩
    have e1 := m_all 6 x.2 (by have := H.deep x hx; omega) (H.small x hx)
    have hpre : (evN pre).length ≤ 120 * pre.length := evN_len pre fun p hp' => H.small p (hp.mem_iff.mp (by rw [e]; simp [hp']))
    have hpl : pre.length ≤ 4 := by have := congrArg List.length e; rw [List.length_append] at this; omega
    have hxl : (allN x.2).length ≤ 120 := by rw [allN_len]; exact H.small x hx
    push_cast [ix_H H.nd (show (x.1, x.2) ∈ hs from hx), e1, List.length_map, sz_ok (show (evN pre).length + (allN x.2).length ≤ 16777216 by omega)]
    refine ⟨.frz (.int x.1), ?_⟩
    rw [show evN (pre ++ [x]) = evN pre ++ allN x.2 by unfold evN; rw [List.flatMap_append]; simp, List.map_append]
  · rintro env ⟨c, rfl⟩
    push_cast []
def ownN (x : Nd) : Int := x.b - x.a - wholes x.i
def one1 (x : Nd) : Str × Int := (x.n, 1)
def own1 (x : Nd) : Str × Int := (x.n, ownN x)
def outA (hs : List (Int × Tr)) : List (Str × Int) := hs.flatMap fun p => outN p.2 []
theorem outA_len : ∀ (hs : List (Int × Tr)), (∀ p ∈ hs, cnt p.2 ≤ 120) → (outA hs).length ≤ 120 * hs.length
  | [], _ => Nat.le_refl _
  | p :: hs, h => by
    have := outA_len hs fun q hq => h q (List.mem_cons_of_mem _ hq)
    have h1 := h p List.mem_cons_self
    have h2 := outN_len p.2 []
    show (outN p.2 [] ++ outA hs).length ≤ _
    rw [List.length_append, List.length_cons]
    omega
theorem all_cnt : ∀ {t : Tr} {x : Nd}, x ∈ allN t → cnt x.i ≤ cnt t
  | .cons n a b i r, x, h => by
    rw [cnt]
    rcases List.mem_cons.mp h with rfl | h
    · show cnt i ≤ _; omega
    · rcases List.mem_append.mp h with h | h
      · have := all_cnt h; omega
      · have := all_cnt h; omega
theorem out_mem {m : Str} : ∀ {t : Tr} {ar : List Str}, m ∉ ar → m ∈ (allN t).map (·.n) → m ∈ (outN t ar).map (·.1)
  | .cons n a b i r, ar, h, hm => by
    rw [outN, List.map_append, List.map_append, List.mem_append, List.mem_append]
    rw [allN, List.map_cons, List.map_append] at hm
    by_cases e : m = n
    · subst e
      rw [if_neg h]
      exact .inl (.inl (by simp))
    · rcases List.mem_cons.mp hm with z | z
      · exact absurd z e
      · rcases List.mem_append.mp z with z | z
        · exact .inl (.inr (out_mem (fun w => (List.mem_append.mp w).elim h (fun w => e (List.mem_singleton.mp w))) z))
        · exact .inr (out_mem h z)
def rowD (C W O : List (Str × Int)) (m : Str) : D := .tup [.str m, .int (tot C m), .int (tot W m), .int (tot O m)]
theorem keys_T (ts : List (Str × Int)) : (encT ts).map (fun e => kD e.1) = (ts.map (·.1)).map D.str := by unfold encT; rw [List.map_map, List.map_map]; rfl
theorem sort_T (ts : List (Str × Int)) : sSorted (.dK (encT ts)) = some (.t (.lst ((ordT (ts.map (·.1))).map .str))) := by
  show srtItems ((encT ts).map fun e => kD e.1) = _
  rw [keys_T, e_srtT]
theorem ix_T {ts ps : List (Str × Int)} (T : Tal ts ps) {m : Str} (h : m ∈ ps.map (·.1)) : sIx (.dK (encT ts)) (.str m) = some (.f (.int (tot ps m))) := by
  refine e_ixK rfl ?_
  rw [look_T, if_pos ((T.mem m).mpr h), T.val]
theorem m_table {hs : List (Int × Tr)} (H : Hands hs) : ∃ names : List Str, sem_table [.dK (encH hs)] = .ret (.t (.lst (names.map (rowD ((evN (ordH hs)).map one1) (outA hs) ((evN (ordH hs)).map own1))))) ∧ (∀ m, m ∈ names ↔ m ∈ (evN (ordH hs)).map (·.n)) ∧ names.length ≤ 16777216 := by
  have hp := ordH_perm hs
  have hl : (ordH hs).length ≤ 4 := by rw [hp.length_eq]; exact H.few
  have hl' := H.few
  have hev : (evN (ordH hs)).length ≤ 120 * (ordH hs).length := evN_len _ fun p hp' => H.small p (hp.mem_iff.mp hp')
  have hc : ∀ x ∈ evN (ordH hs), cnt x.i ≤ 120 := fun x hx => by
    obtain ⟨p, hp', hx⟩ := List.mem_flatMap.mp hx
    have h1 := all_cnt hx
    have h2 := H.small p (hp.mem_iff.mp hp')
    omega
  unfold sem_table g_table
  push_cast [m_need H, m_every H]
  refine fin_exists (Pr := fun o => ∃ names : List Str, o = .ret (.t (.lst (names.map (rowD ((evN (ordH hs)).map one1) (outA hs) ((evN (ordH hs)).map own1))))) ∧ (∀ m, m ∈ names ↔ m ∈ (evN (ordH hs)).map (·.n)) ∧ names.length ≤ 16777216) encN
    (fun pre post env => ∃ c cs os, env = [.frz (.dK (encH hs)), .own (.dK (encT cs)), .own (.dK []), .own (.dK (encT os)), c, .un, .un, .un] ∧ Tal cs (pre.map one1) ∧ Tal os (pre.map own1)) _ _ ⟨_, [], [], rfl, .nil, .nil⟩ ?_ ?_
  · rintro pre x post env e ⟨c, cs, os, rfl, T1, T2⟩
    refine ⟨_, rfl, ?_⟩
    have hx : x ∈ evN (ordH hs) := by rw [e]; simp
    have l1 := T1.len
    have l2 := T2.len
    rw [List.length_map] at l1 l2
    have l3 := congrArg List.length e
    rw [List.length_append] at l3
    push_cast [nd_enc x, getT, m_own (hc x hx), put_T, sz_ok (show (encT cs).length + 1 ≤ 16777216 by unfold encT; rw [List.length_map]; omega), sz_ok (show (encT os).length + 1 ≤ 16777216 by unfold encT; rw [List.length_map]; omega)]
    refine ⟨_, _, _, rfl, ?_, ?_⟩
    · rw [List.map_append]; exact T1.bump _ _
    · rw [List.map_append]; exact T2.bump _ _
  · rintro env ⟨c, cs, os, rfl, T1, T2⟩
    push_cast [keys_H]
    refine fin_exists (Pr := fun o => ∃ names : List Str, o = .ret (.t (.lst (names.map (rowD ((evN (ordH hs)).map one1) (outA hs) ((evN (ordH hs)).map own1))))) ∧ (∀ m, m ∈ names ↔ m ∈ (evN (ordH hs)).map (·.n)) ∧ names.length ≤ 16777216) (fun p : Int × Tr => .int p.1)
      (fun pre post env => ∃ c4 c5 c6 c7 ws, env = [.frz (.dK (encH hs)), .own (.dK (encT cs)), .own (.dK (encT ws)), .own (.dK (encT os)), c4, c5, c6, c7] ∧ (c6 = .un ∨ ∃ d, c6 = .frz d) ∧ Tal ws (outA pre)) _ _ ⟨_, _, _, _, [], rfl, .inl rfl, .nil⟩ ?_ ?_
    · rintro pre x post env e ⟨c4, c5, c6, c7, ws, rfl, hf, T3⟩
      have hx : x ∈ hs := by rw [e]; simp
      refine ⟨_, rfl, ?_⟩
      have e1 := m_outer 6 x.2 [] (by have := H.deep x hx; omega) (by decide) (H.small x hx)
      rw [List.map_nil] at e1
      push_cast [ix_H H.nd (show (x.1, x.2) ∈ hs from hx), e1, show (0 : Nat) ≤ lineN from Nat.zero_le _]
      have lo1 := outN_len x.2 []
      have lo2 := H.small x hx
      have lo3 := outA_len pre fun p hp' => H.small p (by rw [e]; simp [hp'])
      have l3 := congrArg List.length e
      rw [List.length_append] at l3
      refine for_wp encP (fun pre2 post2 env => ∃ c6 c7 ws, env = [.frz (.dK (encH hs)), .own (.dK (encT cs)), .own (.dK (encT ws)), .own (.dK (encT os)), c4, .frz (.int x.1), c6, c7] ∧ (c6 = .un ∨ ∃ d, c6 = .frz d) ∧ Tal ws (outA pre ++ pre2)) (outN x.2 []) _ ⟨c6, c7, ws, rfl, hf, by rw [List.append_nil]; exact T3⟩ ?_ ?_
      · rintro pre2 y post2 env e2 ⟨c6, c7, ws, rfl, hf, T3⟩
        refine ⟨_, rfl, ?_⟩
        have l4 := T3.len
        rw [List.length_append] at l4
        have l5 := congrArg List.length e2
        rw [List.length_append] at l5
        push_cast [getT, put_T, sz_ok (show (encT ws).length + 1 ≤ 16777216 by unfold encT; rw [List.length_map]; omega)]
        refine ⟨_, _, _, rfl, .inr ⟨_, rfl⟩, ?_⟩
        rw [← List.append_assoc]
        exact T3.bump _ _
      · rintro env ⟨c6, c7, ws, rfl, hf, T3⟩
        refine ⟨_, _, _, _, ws, rfl, hf, ?_⟩
        rw [show outA (pre ++ [x]) = outA pre ++ outN x.2 [] by unfold outA; rw [List.flatMap_append]; simp]
        exact T3
    · rintro env ⟨c4, c5, c6, c7, ws, rfl, hf, T3⟩
      have hn : ∀ m, m ∈ ordT (cs.map (·.1)) ↔ m ∈ (evN (ordH hs)).map (·.n) := fun m => by
        rw [(ordT_perm _).mem_iff, T1.mem, List.map_map]
        rfl
      have hlen : (ordT (cs.map (·.1))).length ≤ 16777216 := by
        have := T1.len
        rw [(ordT_perm _).length_eq, List.length_map]
        rw [List.length_map] at this
        omega
      refine ⟨ordT (cs.map (·.1)), ?_, hn, hlen⟩
      push_cast [sort_T]
      rw [lcL_one D.str (rowD ((evN (ordH hs)).map one1) (outA hs) ((evN (ordH hs)).map own1)) (ordT (cs.map (·.1))) (by rcases hf with rfl | ⟨d, rfl⟩ <;> rfl) rfl (fun m hm => ?_) hlen]
      · push_cast []
      · have h0 := (hn m).mp hm
        have h1 : m ∈ ((evN (ordH hs)).map one1).map (·.1) := by rw [List.map_map]; exact h0
        have h3 : m ∈ ((evN (ordH hs)).map own1).map (·.1) := by rw [List.map_map]; exact h0
        have h2 : m ∈ (outA hs).map (·.1) := by
          obtain ⟨x, hx, rfl⟩ := List.mem_map.mp h0
          obtain ⟨p, hp', hx⟩ := List.mem_flatMap.mp hx
          have hm2 := out_mem (t := p.2) (ar := []) (m := x.n) (by simp) (List.mem_map.mpr ⟨x, hx, rfl⟩)
          obtain ⟨q, hq, e⟩ := List.mem_map.mp hm2
          exact List.mem_map.mpr ⟨q, List.mem_flatMap.mpr ⟨p, hp.mem_iff.mp hp', hq⟩, e⟩
        push_cast [ix_T T1 h1, ix_T T2 h3, ix_T T3 h2, show (4 : Nat) ≤ lineN by decide]
        rfl

/-! ### what the law draws -/
theorem nm_a : NameOk "a" := ⟨by rfl, by decide +kernel⟩
theorem nm_b : NameOk "b" := ⟨by rfl, by decide +kernel⟩
theorem nm_c : NameOk "c" := ⟨by rfl, by decide +kernel⟩
theorem nm_ab : NameOk "ab" := ⟨by rfl, by decide +kernel⟩
theorem nm_work : NameOk "work" := ⟨by rfl, by decide +kernel⟩
theorem nm_long : NameOk "abcdefgh" := ⟨by rfl, by decide +kernel⟩
theorem lay_F : ∀ {t : Tr} {lo hi : Int}, Good lo hi t → ∃ ps, pyL (encF t) = some ps ∧ PyData.canLayAll0 ps = true ∧ PyData.depthAll ps ≤ 2 * depth t ∧ (ps = [] ↔ t = .nil)
  | .nil, _, _, _ => ⟨[], rfl, rfl, Nat.zero_le _, by simp⟩
  | .cons n a b i r, lo, hi, ⟨g0, _, _, _, g4, g5⟩ => by
    obtain ⟨p1, a1, b1, c1, _⟩ := lay_F g4
    obtain ⟨p2, a2, b2, c2, _⟩ := lay_F g5
    refine ⟨.tuple [.str n, .int a, .int b, .tuple p1] :: p2, ?_, ?_, ?_, by simp⟩
    · have e : py (.tup [.str n, .int a, .int b, .tup (encF i)]) = some (.tuple [.str n, .int a, .int b, .tuple p1]) := by simp [py, pyL, a1]
      rw [encF, pyL, e, a2]
    · have := g0.2
      simp only [PyData.canLayAll0, PyData.canLay0, Bool.and_true, Bool.true_and, b1, b2] at this ⊢
      exact this
    · simp only [PyData.depthAll, PyData.depth, depth]
      omega
theorem ne_F {t : Tr} {lo hi : Int} (g : Good lo hi t) (hd : depth t ≤ 4) : sNe (.tup (encF t)) (.tup []) = some (.f (.bl (match t with | .nil => false | _ => true))) := by
  obtain ⟨ps, a, b, c, d⟩ := lay_F g
  have e1 : py (.tup (encF t)) = some (.tuple ps) := by simp [py, a]
  have e2 : py (.tup []) = some (.tuple []) := rfl
  have s1 : SeqAt.shaped (.tuple ps) = true := by
    unfold SeqAt.shaped
    rw [Bool.and_eq_true, decide_eq_true_eq]
    refine ⟨by simpa [PyData.canLay0] using b, ?_⟩
    simp only [PyData.depth]
    omega
  have e3 : eqA (.tup (encF t)) (.tup []) = some (PyData.eqv (.tuple ps) (.tuple [])) := by
    show eqD _ _ = _
    unfold eqD
    rw [e1, e2]
    exact if_pos ⟨s1, by decide +kernel⟩
  show (eqA _ _).map _ = _
  rw [e3]
  cases t with
  | nil => rw [d.mpr rfl]; rfl
  | cons n a b i r =>
    cases ps with
    | nil => exact absurd (d.mp rfl) (by simp)
    | cons p ps => simp [PyData.eqv, PyData.eqvAll]
theorem eq_scr (ns : List Int) : sEq (.scr ns) (.lst []) = some (.f (.bl (decide (ns = [])))) := by
  have e3 : eqA (.scr ns) (.lst []) = some (PyData.eqv (.list (ns.map .int)) (.list [])) := by
    have z : scalD (.scr ns) (.lst []) = none := rfl
    unfold eqA
    rw [z]
    dsimp only
    unfold eqD
    have z1 : py (.scr ns) = some (.list (ns.map .int)) := by simp [py]
    have z2 : py (.lst []) = some (.list []) := by simp [py, pyL]
    rw [z1, z2]
    exact if_pos ⟨PySem.W.ke_shaped_ints ns, by decide +kernel⟩
  show (eqA _ _).map _ = _
  rw [e3]
  cases ns <;> simp [PyData.eqv, PyData.eqvAll]
theorem m_cell (ns : List Int) (k : Nat) (hl : ns.length ≤ 63) : ∃ v, sem_law_cell [.scr ns, .int k] = .ret (.f (.int v)) := by
  unfold sem_law_cell g_law_cell
  by_cases h : ns = []
  · push_cast [eq_scr, h, show (0 : Nat) ≤ lineN from Nat.zero_le _, e_mulR (i := (k : Int)) (show (7919 : Int).natAbs < 2 ^ 64 by decide)]
    exact ⟨_, rfl⟩
  · have hp : 0 < ns.length := List.length_pos_iff.mpr h
    have hj : k % ns.length < ns.length := Nat.mod_lt _ hp
    have hm : ((k : Int) % (ns.length : Int)) = ((k % ns.length : Nat) : Int) := by omega
    have hix : sIx (.scr ns) (.int ((k : Int) % (ns.length : Int))) = some (.f (.int (ns[k % ns.length]))) := by
      show (L2.atI ns _).map _ = _
      rw [hm, L2.atI_nat (List.getElem?_eq_getElem hj)]
      rfl
    have hq : (0 : Int) < (ns.length : Int) := by omega
    push_cast [eq_scr, h, show (0 : Nat) ≤ lineN from Nat.zero_le _, e_mod hq, hix, e_fdiv hq (show (ns.length : Int).natAbs < 2 ^ 300 from Nat.lt_of_lt_of_le (show (ns.length : Int).natAbs < 64 by omega) (by decide)), e_mulR (i := (k : Int) / (ns.length : Int)) (show (104729 : Int).natAbs < 2 ^ 64 by decide)]
    exact ⟨_, rfl⟩
theorem m_drawn (c k : Int) : ∃ v, sem_law_drawn [.int c, .int k] = .ret (.f (.int v)) ∧ 0 ≤ v ∧ v < 340282366920938463463374607431768211507 := by
  have h1 : (0 : Int) < 340282366920938463463374607431768211507 := by decide
  have h2 : (0 : Int) < 340282366920938463463374607431768211297 := by decide
  have h3 : (0 : Int) < 18446744073709551557 := by decide
  have b : ∀ {x : Int}, 0 ≤ x → x < 340282366920938463463374607431768211507 → x.natAbs < 2 ^ 300 := fun {x} a b => Nat.lt_trans (show x.natAbs < 340282366920938463463374607431768211507 by omega) (by decide)
  generalize e1 : (c * 6364136223846793005 + (k + 1) * 1442695040888963407) % 340282366920938463463374607431768211507 = m1
  have r1 : 0 ≤ m1 ∧ m1 < 340282366920938463463374607431768211507 := by rw [← e1]; exact ⟨Int.emod_nonneg _ (by decide), Int.emod_lt_of_pos _ h1⟩
  generalize e2 : m1 * m1 % 340282366920938463463374607431768211297 = m2
  have r2 : 0 ≤ m2 ∧ m2 < 340282366920938463463374607431768211297 := by rw [← e2]; exact ⟨Int.emod_nonneg _ (by decide), Int.emod_lt_of_pos _ h2⟩
  have q1 : 0 ≤ m2 % 18446744073709551557 ∧ m2 % 18446744073709551557 < 18446744073709551557 := ⟨Int.emod_nonneg _ (by decide), Int.emod_lt_of_pos _ h3⟩
  have q2 : 0 ≤ m2 / 18446744073709551557 ∧ m2 / 18446744073709551557 < 18446744073709551700 := by omega
  have p1 : (m2 % 18446744073709551557 + 1).natAbs < 2 ^ 300 := Nat.lt_trans (show _ < 18446744073709551559 by omega) (by decide)
  have p2 : (m2 / 18446744073709551557 + 1).natAbs < 2 ^ 300 := Nat.lt_trans (show _ < 18446744073709551701 by omega) (by decide)
  have p3 : ((m2 % 18446744073709551557 + 1) * (m2 / 18446744073709551557 + 1)).natAbs < 2 ^ 300 := by
    rw [Int.natAbs_mul]
    refine Nat.lt_of_le_of_lt (Nat.mul_le_mul (show _ ≤ 18446744073709551559 by omega) (show _ ≤ 18446744073709551701 by omega)) (by decide)
  unfold sem_law_drawn g_law_drawn
  push_cast [e_mulR (i := c) (show (6364136223846793005 : Int).natAbs < 2 ^ 64 by decide), e_mulR (i := k + 1) (show (1442695040888963407 : Int).natAbs < 2 ^ 64 by decide), e_mod h1, e1, e_mulW (b r1.1 r1.2) (b r1.1 r1.2), e_mod h2, e2, e_mod h3, e_fdiv h3 (show (18446744073709551557 : Int).natAbs < 2 ^ 300 by decide), e_mulW p1 p2, e_mulW p3 (b r2.1 (by omega))]
  exact ⟨_, rfl, Int.emod_nonneg _ (by decide), Int.emod_lt_of_pos _ h1⟩
theorem atI_i {α : Type} {xs : List α} {i : Int} {v : α} (h0 : 0 ≤ i) (h : xs[i.toNat]? = some v) : L2.atI xs i = some v := by
  have := L2.atI_nat h
  rwa [Int.toNat_of_nonneg h0] at this
theorem ix_in {xs : List D} {i : Int} (h0 : 0 ≤ i) (h1 : i < xs.length) : ∃ d, sIx (.lst xs) (.int i) = some (.f d) ∧ d ∈ xs := by
  have hj : i.toNat < xs.length := by omega
  exact ⟨xs[i.toNat], e_ixL (atI_i h0 (List.getElem?_eq_getElem hj)), List.getElem_mem hj⟩
def six : List Str := ["a", "b", "c", "ab", "work", "abcdefgh"]
theorem six_ok {n : Str} (h : n ∈ six) : NameOk n := by
  unfold six at h
  simp only [List.mem_cons, List.not_mem_nil, or_false] at h
  rcases h with rfl | rfl | rfl | rfl | rfl | rfl
  all_goals first | exact nm_a | exact nm_b | exact nm_c | exact nm_ab | exact nm_work | exact nm_long
theorem m_name (v : Int) : ∃ n, sem_law_name [.int v] = .ret (.f (.str n)) ∧ NameOk n := by
  have h6 : (0 : Int) < 6 := by decide
  have h8 : (0 : Int) < 8 := by decide
  obtain ⟨d, e, m⟩ := ix_in (xs := six.map D.str) (i := v / 8 % 6) (Int.emod_nonneg _ (by decide)) (Int.emod_lt_of_pos _ h6)
  obtain ⟨n, hn, rfl⟩ := List.mem_map.mp m
  refine ⟨n, ?_, six_ok hn⟩
  simp only [six, List.map_cons, List.map_nil] at e
  unfold sem_law_name g_law_name
  push_cast [show (6 : Nat) ≤ lineN by decide, e_fdiv h8 (show (8 : Int).natAbs < 2 ^ 300 by decide), e_mod h6, e]

theorem m_name6 (v : Int) : ∃ n, sem_law_name [.int v] = .ret (.f (.str n)) ∧ n ∈ six := by
  have h6 : (0 : Int) < 6 := by decide
  have h8 : (0 : Int) < 8 := by decide
  obtain ⟨d, e, m⟩ := ix_in (xs := six.map D.str) (i := v / 8 % 6) (Int.emod_nonneg _ (by decide)) (Int.emod_lt_of_pos _ h6)
  obtain ⟨n, hn, rfl⟩ := List.mem_map.mp m
  refine ⟨n, ?_, hn⟩
  simp only [six, List.map_cons, List.map_nil] at e
  unfold sem_law_name g_law_name
  push_cast [show (6 : Nat) ≤ lineN by decide, e_fdiv h8 (show (8 : Int).natAbs < 2 ^ 300 by decide), e_mod h6, e]
/-! ### the calls drawn -/
def ofK : List Nd → Tr
  | [] => .nil
  | x :: ks => .cons x.n x.a x.b x.i (ofK ks)
theorem enc_ofK : ∀ ks, encF (ofK ks) = ks.map encN
  | [] => rfl
  | x :: ks => by rw [ofK, encF, enc_ofK ks]; rfl
def ChK (here : Int) : Int → List Nd → Prop
  | lo, [] => lo ≤ here
  | lo, x :: ks => NameOk x.n ∧ lo ≤ x.a ∧ x.a ≤ x.b ∧ Good x.a x.b x.i ∧ ChK here x.b ks
theorem ChK.le {here : Int} : ∀ {lo : Int} {ks : List Nd}, ChK here lo ks → lo ≤ here
  | _, [], h => h
  | _, _ :: _, ⟨_, h1, h2, _, h4⟩ => by have := h4.le; omega
theorem ChK.good {here hi : Int} (hh : here ≤ hi) : ∀ {lo : Int} {ks : List Nd}, ChK here lo ks → Good lo hi (ofK ks)
  | _, [], _ => trivial
  | _, _ :: _, ⟨h0, h1, h2, h3, h4⟩ => ⟨h0, h1, h2, by have := h4.le; omega, h3, ChK.good hh h4⟩
theorem ChK.snoc {here : Int} {x : Nd} (h0 : NameOk x.n) (h1 : here ≤ x.a) (h2 : x.a ≤ x.b) (h3 : Good x.a x.b x.i) : ∀ {lo : Int} {ks : List Nd}, ChK here lo ks → ChK x.b lo (ks ++ [x])
  | _, [], h => ⟨h0, Int.le_trans h h1, h2, h3, Int.le_refl _⟩
  | _, _ :: _, ⟨a, b, c, d, e⟩ => ⟨a, b, c, d, ChK.snoc h0 h1 h2 h3 e⟩
theorem depth_ofK {d : Nat} : ∀ {ks : List Nd}, (∀ x ∈ ks, depth x.i ≤ d) → depth (ofK ks) ≤ d + 1
  | [], _ => Nat.zero_le _
  | x :: ks, h => by
    rw [ofK, depth]
    have h1 := h x List.mem_cons_self
    have h2 := depth_ofK fun y hy => h y (List.mem_cons_of_mem _ hy)
    omega
theorem cnt_ofK {c : Nat} : ∀ {ks : List Nd}, (∀ x ∈ ks, cnt x.i ≤ c) → cnt (ofK ks) ≤ ks.length * (1 + c)
  | [], _ => Nat.zero_le _
  | x :: ks, h => by
    rw [ofK, cnt, List.length_cons, Nat.succ_mul]
    have h1 := h x List.mem_cons_self
    have h2 := cnt_ofK fun y hy => h y (List.mem_cons_of_mem _ hy)
    omega
theorem rg_ok {i : Int} (h : -(2 ^ 62) ≤ i) (h' : i < 2 ^ 62) : rgB i = true := by unfold rgB; rw [decide_eq_true h, decide_eq_true h']; rfl
theorem ix_ints {vs : List Int} {i : Int} (h0 : 0 ≤ i) (h1 : i < vs.length) : ∃ v, sIx (.lst (vs.map D.int)) (.int i) = some (.f (.int v)) ∧ v ∈ vs := by
  obtain ⟨d, e, m⟩ := ix_in (xs := vs.map D.int) h0 (by rw [List.length_map]; exact h1)
  obtain ⟨v, hv, rfl⟩ := List.mem_map.mp m
  exact ⟨v, e, hv⟩
def cap : Nat → Nat
  | 0 => 0
  | d + 1 => 3 * (1 + cap d)
theorem range_at {n : Nat} {pre post : List Nat} {x : Nat} (e : List.range n = pre ++ x :: post) : x = pre.length := by
  have h : (List.range n)[pre.length]? = some x := by rw [e]; simp
  have h2 := List.getElem?_eq_some_iff.mp h
  obtain ⟨h3, h4⟩ := h2
  rw [List.getElem_range] at h4
  exact h4.symm
def Sx : Tr → Prop
  | .nil => True
  | .cons n _ _ i r => n ∈ six ∧ Sx i ∧ Sx r
theorem Sx_ofK : ∀ {ks : List Nd}, (∀ x ∈ ks, x.n ∈ six ∧ Sx x.i) → Sx (ofK ks)
  | [], _ => trivial
  | x :: r, h => ⟨(h x (by simp)).1, (h x (by simp)).2, Sx_ofK fun y hy => h y (by simp [hy])⟩
theorem m_calls (n : Nat) : ∀ (deep : Nat) (more lo hi : Int), deep < n → lo ≤ hi → ∃ t, sem_law_calls n [.int more, .int lo, .int hi, .int deep] = .ret (.f (.tup (encF t))) ∧ Good lo hi t ∧ depth t ≤ deep ∧ cnt t ≤ cap deep ∧ Sx t := by
  induction n with
  | zero => intro deep more lo hi h; omega
  | succ n ih =>
    intro deep more lo hi hd hlh
    have h4 : (0 : Int) < 4 := by decide
    have h3 : (0 : Int) < 3 := by decide
    have h8 : (0 : Int) < 8 := by decide
    have h512 : (0 : Int) < 512 := by decide
    have h64 : (0 : Int) < 64 := by decide
    have h16 : (0 : Int) < 16 := by decide
    have m4 : 0 ≤ more % 4 ∧ more % 4 < 4 := ⟨Int.emod_nonneg _ (by decide), Int.emod_lt_of_pos _ h4⟩
    unfold sem_law_calls g_law_calls
    by_cases hz : deep = 0
    · subst hz
      refine ⟨.nil, ?_, trivial, Nat.zero_le _, Nat.zero_le _, trivial⟩
      push_cast [show (0 : Nat) ≤ lineN from Nat.zero_le _, Int.lt_irrefl, gt_iff_lt, show rgB 0 = true by decide, show rngL 0 0 = [] by decide, encF]
    · obtain ⟨d, rfl⟩ : ∃ d, deep = d + 1 := ⟨deep - 1, by omega⟩
      have hgt : (((d + 1 : Nat) : Int) > 0) := by omega
      push_cast [show (0 : Nat) ≤ lineN from Nat.zero_le _, hgt, e_mod h4, rg_ok (show -(2 ^ 62) ≤ more % 4 by omega) (show more % 4 < 2 ^ 62 by omega), rngL_map]
      refine fin_exists (Pr := fun o => ∃ t, o = .ret (.f (.tup (encF t))) ∧ Good lo hi t ∧ depth t ≤ d + 1 ∧ cnt t ≤ cap (d + 1) ∧ Sx t) (fun j : Nat => .int (0 + (j : Nat)))
        (fun pre post env => ∃ ks here c6 c7 c8 c9, env = [.frz (.int more), .frz (.int lo), .frz (.int hi), .frz (.int ((d + 1 : Nat) : Int)), .own (.lst (ks.map encN)), .frz (.int here), c6, c7, c8, c9] ∧ ChK here lo ks ∧ here ≤ hi ∧ (∀ x ∈ ks, depth x.i ≤ d ∧ cnt x.i ≤ cap d ∧ x.n ∈ six ∧ Sx x.i) ∧ ks.length ≤ pre.length) _ _ ⟨[], lo, _, _, _, _, rfl, Int.le_refl _, hlh, by simp, Nat.le_refl _⟩ ?_ ?_
      · rintro pre j post env e ⟨ks, here, c6, c7, c8, c9, rfl, hk, hh, hx, hl⟩
        refine ⟨_, rfl, ?_⟩
        have hpl : pre.length < 4 := by
          have := congrArg List.length e
          rw [List.length_range, List.length_append, List.length_cons] at this
          omega
        obtain ⟨one, e1, o0, _⟩ := m_drawn more (0 + (j : Nat))
        obtain ⟨two, e2, _, _⟩ := m_drawn one 1
        obtain ⟨nm, e3, hn6⟩ := m_name6 (one / 16)
        have hn := six_ok hn6
        obtain ⟨v1, e4, hv1⟩ := ix_ints (vs := [1, 4, 9]) (i := one % 3) (Int.emod_nonneg _ (by decide)) (Int.emod_lt_of_pos _ h3)
        obtain ⟨v2, e5, hv2⟩ := ix_ints (vs := [1, 7, 40, 300]) (i := one / 64 % 4) (Int.emod_nonneg _ (by decide)) (Int.emod_lt_of_pos _ h4)
        have p1 : 0 < v1 := by simp only [List.mem_cons, List.not_mem_nil, or_false] at hv1; omega
        have p2 : 0 < v2 := by simp only [List.mem_cons, List.not_mem_nil, or_false] at hv2; omega
        simp only [List.map_cons, List.map_nil] at e4 e5
        have q1 : 0 ≤ one / 8 % v1 := Int.emod_nonneg _ (by omega)
        have q2 : 0 ≤ one / 512 % v2 := Int.emod_nonneg _ (by omega)
        generalize hF : here + one / 8 % v1 = first
        generalize hL : first + one / 512 % v2 = last
        have w1 : here ≤ first := by omega
        have w2 : first ≤ last := by omega
        obtain ⟨t, e6, g6, d6, c6', s6⟩ := ih d two first last (by omega) w2
        have hdd : ((d + 1 : Nat) : Int) - 1 = (d : Int) := by omega
        by_cases hc : last ≤ hi
        · push_cast [e1, e_fdiv h8 (show (8 : Int).natAbs < 2 ^ 300 by decide), e_mod h3, show (3 : Nat) ≤ lineN by decide, show (4 : Nat) ≤ lineN by decide, e4, e_mod p1, hF, e_fdiv h512 (show (512 : Int).natAbs < 2 ^ 300 by decide), e_fdiv h64 (show (64 : Int).natAbs < 2 ^ 300 by decide), e_mod h4, e5, e_mod p2, hL, hc, e_fdiv h16 (show (16 : Int).natAbs < 2 ^ 300 by decide), e2, e3, hdd, e6, List.length_map, sz_ok (show ks.length + 1 ≤ 16777216 by omega)]
          refine ⟨ks ++ [⟨nm, first, last, t⟩], last, _, _, _, _, by rw [List.map_append]; rfl, ChK.snoc (x := ⟨nm, first, last, t⟩) hn w1 w2 g6 hk, hc, ?_, by rw [List.length_append, List.length_append]; simp only [List.length_singleton]; omega⟩
          intro x hx'
          rcases List.mem_append.mp hx' with z | z
          · exact hx x z
          · rw [List.mem_singleton] at z; subst z; exact ⟨d6, c6', hn6, s6⟩
        · push_cast [e1, e_fdiv h8 (show (8 : Int).natAbs < 2 ^ 300 by decide), e_mod h3, show (3 : Nat) ≤ lineN by decide, show (4 : Nat) ≤ lineN by decide, e4, e_mod p1, hF, e_fdiv h512 (show (512 : Int).natAbs < 2 ^ 300 by decide), e_fdiv h64 (show (64 : Int).natAbs < 2 ^ 300 by decide), e_mod h4, e5, e_mod p2, hL, hc]
          exact ⟨ks, here, _, _, _, _, rfl, hk, hh, hx, by rw [List.length_append]; omega⟩
      · rintro env ⟨ks, here, c6, c7, c8, c9, rfl, hk, hh, hx, hl⟩
        rw [List.length_range] at hl
        refine ⟨ofK ks, ?_, hk.good hh, depth_ofK fun x h => (hx x h).1, ?_, Sx_ofK fun x h => (hx x h).2.2⟩
        · push_cast [enc_ofK]
        · have := cnt_ofK (c := cap d) fun x h => (hx x h).2.1
          have h3 : ks.length ≤ 3 := by omega
          exact Nat.le_trans this (Nat.mul_le_mul_right _ h3)
structure Drawn (hs : List (Int × Tr)) : Prop extends Hands hs where
  some : ∀ p ∈ hs, p.2 ≠ .nil
  low : ∀ p ∈ hs, Good 0 904 p.2
  six : ∀ p ∈ hs, Sx p.2
  up : (hs.map (·.1)).Pairwise (· < ·)
theorem put_H {hs : List (Int × Tr)} {h : Int} {t : Tr} (n : h ∉ hs.map (·.1)) : put (encH hs) (.inl h) (.tup (encF t)) = encH (hs ++ [(h, t)]) := by
  unfold put
  rw [if_neg]
  · unfold encH; rw [List.map_append]; rfl
  · intro z
    obtain ⟨x, hx, e⟩ := List.any_eq_true.mp z
    obtain ⟨p, hp, rfl⟩ := List.mem_map.mp hx
    have : p.1 = h := by simpa using e
    exact n (List.mem_map.mpr ⟨p, hp, this⟩)
theorem m_trees (more : Int) : ∃ hs, sem_law_trees [.int more] = .ret (.t (.dK (encH hs))) ∧ Drawn hs := by
  have h3 : (0 : Int) < 3 := by decide
  have h8 : (0 : Int) < 8 := by decide
  have h5 : (0 : Int) < 5 := by decide
  have h64 : (0 : Int) < 64 := by decide
  have h900 : (0 : Int) < 900 := by decide
  unfold sem_law_trees g_law_trees
  push_cast [show (rgB 1 && rgB 5) = true by decide, rngL_map]
  refine fin_exists (Pr := fun o => ∃ hs, o = .ret (.t (.dK (encH hs))) ∧ Drawn hs) (fun j : Nat => .int (1 + (j : Nat)))
    (fun pre post env => ∃ hs c2 c3 c4, env = [.frz (.int more), .own (.dK (encH hs)), c2, c3, c4] ∧ Drawn hs ∧ (∀ p ∈ hs, p.1 ≤ pre.length) ∧ hs.length ≤ pre.length) _ _ ⟨[], _, _, _, rfl, ⟨⟨List.nodup_nil, by simp, by simp, by simp, by simp, by simp⟩, by simp, by simp, by simp, by simp⟩, by simp, Nat.le_refl _⟩ ?_ ?_
  · rintro pre j post env e ⟨hs, c2, c3, c4, rfl, Dr, hb, hl⟩
    refine ⟨_, rfl, ?_⟩
    have hpl : pre.length < 4 := by
      have := congrArg List.length e
      rw [List.length_range, List.length_append, List.length_cons] at this
      have z : (5 - 1 : Int).toNat = 4 := rfl
      omega
    have hj := range_at e
    subst hj
    obtain ⟨here, e1, o0, _⟩ := m_drawn more (10 + (1 + (pre.length : Nat)))
    obtain ⟨t, e2, g2, d2, c2', s2⟩ := m_calls 6 4 (here / 8) (here % 5) (5 + here / 64 % 900) (by decide) (by omega)
    have g904 : Good 0 904 t := g2.wider (Int.emod_nonneg _ (by decide)) (by omega)
    have hcap : cnt t ≤ 120 := c2'
    have e2 : sem_law_calls 6 [.int (here / 8), .int (here % 5), .int (5 + here / 64 % 900), .int 4] = .ret (.f (.tup (encF t))) := e2
    have hsz := sz_ok (show (encH hs).length + 1 ≤ 16777216 by unfold encH; rw [List.length_map]; omega)
    have hnew : (1 + (pre.length : Int)) ∉ hs.map (·.1) := fun z => by
      obtain ⟨p, hp, e⟩ := List.mem_map.mp z
      have := hb p hp
      omega
    have next : ∀ c2 c3 c4, ∃ hs' c2' c3' c4', [Cell.frz (.int more), .own (.dK (encH hs)), c2, c3, c4] = [.frz (.int more), .own (.dK (encH hs')), c2', c3', c4'] ∧ Drawn hs' ∧ (∀ p ∈ hs', p.1 ≤ (pre ++ [pre.length]).length) ∧ hs'.length ≤ (pre ++ [pre.length]).length := fun c2 c3 c4 =>
      ⟨hs, c2, c3, c4, rfl, Dr, fun p hp => by rw [List.length_append, List.length_singleton]; have := hb p hp; omega, by rw [List.length_append]; omega⟩
    have hne := ne_F g2 d2
    cases t with
    | nil =>
      push_cast [e1, e_fdiv h8 (show (8 : Int).natAbs < 2 ^ 300 by decide), e_mod h5, e_fdiv h64 (show (64 : Int).natAbs < 2 ^ 300 by decide), e_mod h900, e2, show (0 : Nat) ≤ lineN from Nat.zero_le _, hne]
      exact next _ _ _
    | cons n a b i r =>
      by_cases hc : here % 3 > 0
      · push_cast [e1, e_fdiv h8 (show (8 : Int).natAbs < 2 ^ 300 by decide), e_mod h5, e_fdiv h64 (show (64 : Int).natAbs < 2 ^ 300 by decide), e_mod h900, e2, show (0 : Nat) ≤ lineN from Nat.zero_le _, hne, e_mod h3, hc, hsz, put_H hnew]
        refine ⟨hs ++ [(1 + (pre.length : Int), .cons n a b i r)], _, _, _, rfl, ?_, ?_, by rw [List.length_append, List.length_append]; simp only [List.length_singleton]; omega⟩
        · have app : ∀ {Pp : Int × Tr → Prop}, (∀ p ∈ hs, Pp p) → Pp (1 + (pre.length : Int), .cons n a b i r) → ∀ p ∈ hs ++ [(1 + (pre.length : Int), Tr.cons n a b i r)], Pp p := fun h1 h2 p hp => by
            rcases List.mem_append.mp hp with z | z
            · exact h1 p z
            · rw [List.mem_singleton] at z; exact z ▸ h2
          refine ⟨⟨?_, app Dr.rng ⟨by show (1 : Int) ≤ 1 + pre.length; omega, by show (1 : Int) + pre.length ≤ 4; omega⟩, app Dr.good (g904.wider (Int.le_refl _) (by decide)), app Dr.deep d2, app Dr.small hcap, by rw [List.length_append, List.length_singleton]; omega⟩, app Dr.some (by simp), app Dr.low g904, app Dr.six s2, ?_⟩
          rotate_left
          · rw [List.map_append]
            exact List.pairwise_append.mpr ⟨Dr.up, by simp, fun x hx y hy => by rw [List.map_singleton, List.mem_singleton] at hy; subst hy; obtain ⟨p, hp, rfl⟩ := List.mem_map.mp hx; have := hb p hp; omega⟩
          rw [List.map_append]
          exact List.nodup_append.mpr ⟨Dr.nd, by simp, fun x hx y hy e => by rw [List.map_singleton, List.mem_singleton] at hy; subst hy; subst e; exact hnew hx⟩
        · intro p hp
          rw [List.length_append, List.length_singleton]
          rcases List.mem_append.mp hp with z | z
          · have := hb p z; omega
          · rw [List.mem_singleton] at z; subst z; show (1 : Int) + pre.length ≤ _; omega
      · push_cast [e1, e_fdiv h8 (show (8 : Int).natAbs < 2 ^ 300 by decide), e_mod h5, e_fdiv h64 (show (64 : Int).natAbs < 2 ^ 300 by decide), e_mod h900, e2, show (0 : Nat) ≤ lineN from Nat.zero_le _, hne, e_mod h3, hc]
        exact next _ _ _
  · rintro env ⟨hs, c2, c3, c4, rfl, Dr, _, _⟩
    push_cast []
    exact ⟨hs, rfl, Dr⟩

/-! ### ticks counted -/
def sumR (N : Nat) (f : Nat → Int) : Int := ((List.range N).map f).sum
theorem sum_add {α : Type} (f g : α → Int) : ∀ l : List α, (l.map fun x => f x + g x).sum = (l.map f).sum + (l.map g).sum
  | [] => rfl
  | x :: l => by rw [List.map_cons, List.map_cons, List.map_cons, List.sum_cons, List.sum_cons, List.sum_cons, sum_add f g l]; omega
theorem sumR_add (N : Nat) (f g : Nat → Int) : sumR N (fun k => f k + g k) = sumR N f + sumR N g := sum_add f g _
theorem sumR_sub (N : Nat) (f g : Nat → Int) : sumR N (fun k => f k - g k) = sumR N f - sumR N g := by
  have := sumR_add N (fun k => f k - g k) g
  simp only [Int.sub_add_cancel] at this
  have e : sumR N f = sumR N (fun k => f k - g k) + sumR N g := this
  rw [e, Int.add_sub_cancel]
theorem sumR_zero (N : Nat) : sumR N (fun _ => 0) = 0 := by
  unfold sumR
  induction List.range N with
  | nil => rfl
  | cons x l ih => rw [List.map_cons, List.sum_cons, ih]; rfl
theorem sumR_congr {N : Nat} {f g : Nat → Int} (h : ∀ k, f k = g k) : sumR N f = sumR N g := by rw [show f = g from funext h]
theorem sumR_succ (N : Nat) (f : Nat → Int) : sumR (N + 1) f = sumR N f + f N := by
  unfold sumR
  rw [List.range_succ, List.map_append, List.sum_append]
  simp
def ind (a b : Int) (k : Nat) : Int := if a ≤ (k : Int) ∧ (k : Int) < b then 1 else 0
theorem sum_ind {a b : Int} (h0 : 0 ≤ a) (h1 : a ≤ b) : ∀ N : Nat, sumR N (ind a b) = min (N : Int) b - min (N : Int) a
  | 0 => by show (0 : Int) = _; omega
  | N + 1 => by
    rw [sumR_succ, sum_ind h0 h1 N]
    unfold ind
    split <;> omega
theorem path_out : ∀ {t : Tr} {lo hi k : Int}, Good lo hi t → (k < lo ∨ hi ≤ k) → path t k = []
  | .nil, _, _, _, _, _ => rfl
  | .cons n a b i r, lo, hi, k, ⟨_, h1, h2, h3, h4, h5⟩, h => by
    rw [path, if_neg (by omega)]
    exact path_out h5 (by omega)
def cov (t : Tr) (k : Nat) : Int := if path t k = [] then 0 else 1
theorem cov_cons {n : Str} {a b : Int} {i r : Tr} {lo hi : Int} (g : Good lo hi (.cons n a b i r)) (k : Nat) : cov (.cons n a b i r) k = ind a b k + cov r k := by
  obtain ⟨_, h1, h2, h3, h4, h5⟩ := g
  unfold cov ind
  rw [path]
  by_cases h : a ≤ (k : Int) ∧ (k : Int) < b
  · rw [if_pos h, if_pos h, path_out h5 (.inl h.2)]
    simp
  · rw [if_neg h, if_neg h]
    omega
theorem sum_cov {N : Nat} : ∀ {t : Tr} {lo hi : Int}, Good lo hi t → 0 ≤ lo → hi ≤ N → sumR N (cov t) = wholes t
  | .nil, _, _, _, _, _ => sumR_zero N
  | .cons n a b i r, lo, hi, g, h0, hN => by
    rw [sumR_congr (cov_cons g), sumR_add]
    obtain ⟨_, h1, h2, h3, h4, h5⟩ := g
    rw [sum_ind (by omega) h2, sum_cov h5 (by omega) hN, wholes]
    omega
def lastL (p : List Str) : List Str := p.drop (p.length - 1)
def ones (p : List Str) : List (Str × Int) := p.map fun n => (n, 1)
def oI (t : Tr) (m : Str) (k : Nat) : Int := tot (ones (lastL (path t k))) m
def eqI (n m : Str) : Int := if n = m then 1 else 0
theorem oI_cons {n : Str} {a b : Int} {i r : Tr} {lo hi : Int} (g : Good lo hi (.cons n a b i r)) (m : Str) (k : Nat) : oI (.cons n a b i r) m k = ((ind a b k - cov i k) * eqI n m + oI i m k) + oI r m k := by
  obtain ⟨_, h1, h2, h3, h4, h5⟩ := g
  unfold oI ind cov
  rw [path]
  by_cases h : a ≤ (k : Int) ∧ (k : Int) < b
  · rw [if_pos h, if_pos h, path_out h5 (.inl h.2)]
    cases q : path i k with
    | nil => simp [lastL, ones, tot, eqI]
    | cons x xs =>
      have e : lastL (n :: x :: xs) = lastL (x :: xs) := by unfold lastL; simp
      rw [e]
      simp [lastL, ones, tot]
  · rw [if_neg h, if_neg h, path_out h4 (by omega)]
    simp [lastL, ones, tot]
theorem sumR_mul (N : Nat) (f : Nat → Int) (c : Int) : sumR N (fun k => f k * c) = sumR N f * c := by
  induction N with
  | zero => show (0 : Int) = 0 * c; simp
  | succ N ih => rw [sumR_succ, sumR_succ, ih, Int.add_mul]
theorem sum_oI {N : Nat} (m : Str) : ∀ {t : Tr} {lo hi : Int}, Good lo hi t → 0 ≤ lo → hi ≤ N → sumR N (oI t m) = tot ((allN t).map own1) m
  | .nil, _, _, _, _, _ => sumR_zero N
  | .cons n a b i r, lo, hi, g, h0, hN => by
    rw [sumR_congr (oI_cons g m), sumR_add, sumR_add, sumR_mul, sumR_sub]
    obtain ⟨_, h1, h2, h3, h4, h5⟩ := g
    rw [sum_ind (by omega) h2, sum_cov h4 (by omega) (by omega), sum_oI m h4 (by omega) (by omega), sum_oI m h5 (by omega) hN, allN, List.map_cons, tot_cons, List.map_append, tot_app]
    have e : min (N : Int) b - min (N : Int) a - wholes i = ownN ⟨n, a, b, i⟩ := by show _ = b - a - wholes i; omega
    rw [e]
    show ownN ⟨n, a, b, i⟩ * eqI n m + _ + _ = (if n = m then ownN ⟨n, a, b, i⟩ else 0) + (_ + _)
    unfold eqI
    split
    · rw [Int.mul_one]; omega
    · rw [Int.mul_zero]; omega
theorem mem_sortT {m : Str} {p : List Str} : m ∈ sortT p ↔ m ∈ p := by unfold sortT; rw [(List.mergeSort_perm _ _).mem_iff, mem_nub]
theorem nodup_sortT (p : List Str) : (sortT p).Nodup := by unfold sortT; exact (List.mergeSort_perm _ _).nodup_iff.mpr (nodup_nub p)
theorem tot_ones {m : Str} : ∀ {l : List Str}, l.Nodup → tot (ones l) m = if m ∈ l then 1 else 0
  | [], _ => rfl
  | x :: l, h => by
    rw [List.nodup_cons] at h
    show (if x = m then 1 else 0) + tot (ones l) m = _
    rw [tot_ones h.2]
    by_cases e : x = m
    · subst e; simp [h.1]
    · have e' : ¬ m = x := fun z => e z.symm
      simp [e, e']
def yI (t : Tr) (m : Str) (k : Nat) : Int := tot (ones (sortT (path t k))) m
theorem yI_eq (t : Tr) (m : Str) (k : Nat) : yI t m k = if m ∈ path t k then 1 else 0 := by
  unfold yI
  rw [tot_ones (nodup_sortT _)]
  simp only [mem_sortT]
theorem yI_cons {n : Str} {a b : Int} {i r : Tr} {lo hi : Int} (g : Good lo hi (.cons n a b i r)) (m : Str) (k : Nat) : yI (.cons n a b i r) m k = (if n = m then ind a b k else yI i m k) + yI r m k := by
  obtain ⟨_, h1, h2, h3, h4, h5⟩ := g
  rw [yI_eq, yI_eq, yI_eq]
  unfold ind
  rw [path]
  by_cases h : a ≤ (k : Int) ∧ (k : Int) < b
  · rw [if_pos h, if_pos h, path_out h5 (.inl h.2)]
    by_cases e : n = m
    · simp [e]
    · have e' : ¬ m = n := fun z => e z.symm
      simp [e, e']
  · rw [if_neg h, if_neg h, path_out h4 (by omega)]
    simp
theorem tot_out {N : Nat} (m : Str) : ∀ {t : Tr} {lo hi : Int} (ar : List Str), Good lo hi t → 0 ≤ lo → hi ≤ N → tot (outN t ar) m = if m ∈ ar then 0 else sumR N (yI t m)
  | .nil, _, _, ar, _, _, _ => by
    have : sumR N (yI .nil m) = 0 := (sumR_congr (f := yI .nil m) (g := fun _ => 0) fun k => by rw [yI_eq]; simp [path]).trans (sumR_zero N)
    rw [this]
    simp [outN, tot]
  | .cons n a b i r, lo, hi, ar, g, h0, hN => by
    rw [sumR_congr (yI_cons g m), sumR_add]
    obtain ⟨_, h1, h2, h3, h4, h5⟩ := g
    rw [outN, tot_app, tot_app, tot_out (N := N) m (ar ++ [n]) h4 (by omega) (by omega), tot_out (N := N) m ar h5 (by omega) hN]
    by_cases e : n = m
    · subst e
      simp only [if_true]
      rw [sum_ind (by omega) h2, if_pos (show n ∈ ar ++ [n] by simp)]
      by_cases q : n ∈ ar
      · simp [q, tot]
      · simp [q, tot]; omega
    · have e' : ¬ m = n := fun z => e z.symm
      simp only [e, if_false]
      by_cases q : m ∈ ar
      · rw [if_pos q, if_pos q, if_pos (show m ∈ ar ++ [n] by simp [q])]
        by_cases w : n ∈ ar
        · simp [w, tot]
        · simp [w, tot, e]
      · rw [if_neg q, if_neg q, if_neg (show m ∉ ar ++ [n] by simp [q, e'])]
        by_cases w : n ∈ ar
        · simp [w, tot]
        · simp [w, tot, e]
theorem tot_flat {α : Type} (f : α → List (Str × Int)) (m : Str) : ∀ l : List α, tot (l.flatMap f) m = (l.map fun x => tot (f x) m).sum
  | [] => rfl
  | x :: l => by rw [List.flatMap_cons, tot_app, tot_flat f m l]; rfl
theorem tot_perm {ps qs : List (Str × Int)} (h : ps.Perm qs) (m : Str) : tot ps m = tot qs m := by
  induction h with
  | nil => rfl
  | cons x _ ih => rw [tot_cons, tot_cons, ih]
  | swap x y l => rw [tot_cons, tot_cons, tot_cons, tot_cons]; omega
  | trans _ _ a b => exact a.trans b
def endT : Tr → Int
  | .nil => 0
  | .cons _ _ b _ .nil => b
  | .cons _ _ _ _ r => endT r
theorem good_end : ∀ {t : Tr} {lo hi : Int}, Good lo hi t → Good lo (endT t) t ∧ (t ≠ .nil → lo ≤ endT t ∧ endT t ≤ hi)
  | .nil, _, _, _ => ⟨trivial, fun h => absurd rfl h⟩
  | .cons n a b i .nil, lo, hi, ⟨h0, h1, h2, h3, h4, _⟩ => ⟨⟨h0, h1, h2, Int.le_refl _, h4, trivial⟩, fun _ => by show lo ≤ b ∧ b ≤ hi; omega⟩
  | .cons n a b i (.cons n2 a2 b2 i2 r), lo, hi, ⟨h0, h1, h2, h3, h4, h5⟩ => by
    have ih := good_end h5
    have w := ih.2 (by simp)
    exact ⟨⟨h0, h1, h2, w.1, h4, ih.1⟩, fun _ => by show lo ≤ endT (.cons n2 a2 b2 i2 r) ∧ endT (.cons n2 a2 b2 i2 r) ≤ hi; omega⟩
theorem end_kid : ∀ {t : Tr}, t ≠ .nil → ∃ l x, kids t = l ++ [x] ∧ x.b = endT t
  | .nil, h => absurd rfl h
  | .cons n a b i .nil, _ => ⟨[], ⟨n, a, b, i⟩, rfl, rfl⟩
  | .cons n a b i (.cons n2 a2 b2 i2 r), _ => by
    obtain ⟨l, x, e, h⟩ := end_kid (t := .cons n2 a2 b2 i2 r) (by simp)
    exact ⟨⟨n, a, b, i⟩ :: l, x, by rw [kids, e]; rfl, h⟩
theorem atI_last {α : Type} (l : List α) (x : α) : L2.atI (l ++ [x]) (-1) = some x := by
  unfold L2.atI L2.ixN
  rw [if_neg (by decide), List.length_append, List.length_singleton, if_pos (by omega)]
  have e : (-1 + ((l.length + 1 : Nat) : Int)).toNat = l.length := by omega
  show (some _).bind _ = _
  rw [Option.bind_some, e]
  simp
def tk (t : Tr) : Nat := (endT t + 1 - 0).toNat
def pO (t : Tr) (N : Nat) : List (Str × Int) := (List.range N).flatMap fun k : Nat => ones (lastL (path t (k : Nat)))
def pA (t : Tr) (N : Nat) : List (Str × Int) := (List.range N).flatMap fun k : Nat => ones (sortT (path t (k : Nat)))
def ownP (hs : List (Int × Tr)) : List (Str × Int) := hs.flatMap fun p => pO p.2 (tk p.2)
def anyP (hs : List (Int × Tr)) : List (Str × Int) := hs.flatMap fun p => pA p.2 (tk p.2)
theorem pO_tot {t : Tr} {hi : Int} (g : Good 0 hi t) (m : Str) : tot (pO t (tk t)) m = tot ((allN t).map own1) m := by
  unfold pO
  rw [tot_flat]
  exact sum_oI (N := tk t) m (good_end g).1 (Int.le_refl _) (by unfold tk; omega)
theorem pA_tot {t : Tr} {hi : Int} (g : Good 0 hi t) (m : Str) : tot (pA t (tk t)) m = tot (outN t []) m := by
  unfold pA
  rw [tot_flat, tot_out (N := tk t) m [] (good_end g).1 (Int.le_refl _) (by unfold tk; omega), if_neg (by simp)]
  rfl
theorem own_eq {hs : List (Int × Tr)} (Dr : Drawn hs) (m : Str) : tot (ownP hs) m = tot ((evN (ordH hs)).map own1) m := by
  have e : ((evN hs).map own1).Perm ((evN (ordH hs)).map own1) := ((ordH_perm hs).symm.flatMap_right _).map _
  rw [← tot_perm e]
  unfold ownP evN
  rw [List.map_flatMap, tot_flat, tot_flat]
  congr 1
  exact List.map_congr_left fun p hp => pO_tot (Dr.low p hp) m
theorem any_eq {hs : List (Int × Tr)} (Dr : Drawn hs) (m : Str) : tot (anyP hs) m = tot (outA hs) m := by
  unfold anyP outA
  rw [tot_flat, tot_flat]
  congr 1
  exact List.map_congr_left fun p hp => pA_tot (Dr.low p hp) m
theorem tot_one {m : Str} : ∀ {l : List Nd}, (0 : Int) ≤ tot (l.map one1) m ∧ (m ∈ l.map (·.n) → 1 ≤ tot (l.map one1) m)
  | [] => ⟨Int.le_refl _, fun h => by cases h⟩
  | x :: l => by
    have ih := tot_one (m := m) (l := l)
    rw [List.map_cons, tot_cons]
    show (0 : Int) ≤ (if x.n = m then 1 else 0) + _ ∧ (_ → 1 ≤ (if x.n = m then 1 else 0) + _)
    by_cases e : x.n = m
    · rw [if_pos e]; exact ⟨by omega, fun _ => by omega⟩
    · rw [if_neg e]
      refine ⟨by omega, fun h => ?_⟩
      rcases List.mem_cons.mp h with z | z
      · exact absurd z.symm e
      · have := ih.2 z; omega
theorem path_mem {m : Str} {k : Int} : ∀ {t : Tr}, m ∈ path t k → m ∈ (allN t).map (·.n)
  | .nil, h => by cases h
  | .cons n a b i r, h => by
    rw [allN, List.map_cons, List.map_append]
    rw [path] at h
    split at h
    · rcases List.mem_cons.mp h with z | z
      · exact z ▸ List.mem_cons_self
      · exact List.mem_cons_of_mem _ (List.mem_append.mpr (.inl (path_mem z)))
    · exact List.mem_cons_of_mem _ (List.mem_append.mpr (.inr (path_mem h)))
theorem any_mem {hs : List (Int × Tr)} {m : Str} (h : m ∈ (anyP hs).map (·.1)) : m ∈ (evN (ordH hs)).map (·.n) := by
  obtain ⟨q, hq, rfl⟩ := List.mem_map.mp h
  obtain ⟨p, hp, hq⟩ := List.mem_flatMap.mp hq
  obtain ⟨k, _, hq⟩ := List.mem_flatMap.mp hq
  obtain ⟨n, hn, rfl⟩ := List.mem_map.mp hq
  have := path_mem (mem_sortT.mp hn)
  obtain ⟨x, hx, e⟩ := List.mem_map.mp this
  exact List.mem_map.mpr ⟨x, List.mem_flatMap.mpr ⟨p, (ordH_perm hs).mem_iff.mpr hp, hx⟩, e⟩
theorem len_flat {α β : Type} {f : α → List β} {c : Nat} : ∀ {l : List α}, (∀ x ∈ l, (f x).length ≤ c) → (l.flatMap f).length ≤ c * l.length
  | [], _ => Nat.zero_le _
  | x :: l, h => by
    rw [List.flatMap_cons, List.length_append, List.length_cons, Nat.mul_succ]
    have h1 := h x List.mem_cons_self
    have h2 := len_flat fun y hy => h y (List.mem_cons_of_mem _ hy)
    omega
theorem nub_len {α : Type} [DecidableEq α] : ∀ l : List α, (nub l).length ≤ l.length
  | [] => Nat.le_refl _
  | x :: l => by
    unfold nub
    have := nub_len l
    split
    · rw [List.length_cons]; omega
    · rw [List.length_cons, List.length_cons]; omega
theorem sortT_len (p : List Str) : (sortT p).length ≤ p.length := by unfold sortT; rw [(List.mergeSort_perm _ _).length_eq]; exact nub_len p
theorem ones_len (p : List Str) : (ones p).length = p.length := List.length_map _
theorem lastL_len (p : List Str) : (lastL p).length ≤ 1 := by unfold lastL; rw [List.length_drop]; omega

def FrC (c : Cell) : Prop := c = .un ∨ ∃ d, c = .frz d
theorem lay_list {n : Nat} (hn : n ≤ 59) {β : Type} {f : β → D} {l : List β} (h : ∀ x ∈ l, Lay n (f x)) : Lay 60 (.lst (l.map f)) := (lay_lst (n := n) fun d hd => by
  obtain ⟨x, hx, rfl⟩ := List.mem_map.mp hd
  exact h x hx).mono (by omega)
theorem ix_lastL (l : List D) (x : D) : sIx (.lst (l ++ [x])) (.int (-1)) = some (.f x) := by
  show (L2.atI (l ++ [x]) (-1)).map Rn.f = _
  rw [atI_last]; rfl
theorem cut_init (xs : List D) : cutD xs none (some (-1)) = xs.dropLast := by
  unfold cutD HT.sIx
  rw [List.dropLast_eq_take]
  by_cases h : xs.length = 0
  · rw [List.eq_nil_of_length_eq_zero h]; rfl
  · simp
    omega
theorem cut_tail (xs : List D) : cutD xs (some 1) none = xs.tail := by
  unfold cutD HT.sIx
  cases xs with
  | nil => rfl
  | cons x xs => simp
theorem cut_to {xs : List D} {k : Nat} : cutD xs none (some (k : Int)) = xs.take k := by
  unfold cutD
  have e0 : HT.sIx xs.length 0 none = 0 := HT.sIx_none _ _
  have e : HT.sIx xs.length xs.length (some (k : Int)) = min k xs.length := by
    show (if (k : Int) < 0 then ((k : Int) + (xs.length : Int)).toNat else min (k : Int).toNat xs.length) = _
    rw [if_neg (by omega)]
    rfl
  rw [e0, e, List.drop_zero, Nat.sub_zero]
  rcases Nat.le_total k xs.length with h | h
  · rw [Nat.min_eq_left h]
  · rw [Nat.min_eq_right h, List.take_length, List.take_of_length_le h]
theorem srt_ext {α : Type} {lt : α → α → Prop} (ir : ∀ a, ¬ lt a a) (tr : ∀ a b c, lt a b → lt b c → lt a c) : ∀ {l m : List α}, l.Pairwise lt → m.Pairwise lt → (∀ x, x ∈ l ↔ x ∈ m) → l = m
  | [], [], _, _, _ => rfl
  | [], b :: m, _, _, h => by have := (h b).mpr List.mem_cons_self; cases this
  | a :: l, [], _, _, h => by have := (h a).mp List.mem_cons_self; cases this
  | a :: l, b :: m, h1, h2, h => by
    rw [List.pairwise_cons] at h1 h2
    have e : a = b := by
      rcases List.mem_cons.mp ((h a).mp List.mem_cons_self) with z | z
      · exact z
      · rcases List.mem_cons.mp ((h b).mpr List.mem_cons_self) with z' | z'
        · exact z'.symm
        · exact absurd (tr _ _ _ (h1.1 b z') (h2.1 a z)) (ir a)
    subst e
    rw [srt_ext ir tr h1.2 h2.2 fun x => ?_]
    constructor
    · intro hx
      rcases List.mem_cons.mp ((h x).mp (List.mem_cons_of_mem _ hx)) with z | z
      · subst z; exact absurd (h1.1 x hx) (ir x)
      · exact z
    · intro hx
      rcases List.mem_cons.mp ((h x).mpr (List.mem_cons_of_mem _ hx)) with z | z
      · subst z; exact absurd (h2.1 x hx) (ir x)
      · exact z
/-! ### rows -/
structure Rw where
  t : Int
  h : Int
  b : Bool
  n : Str
def wrd (b : Bool) : Str := if b = true then "begin" else "end"
def encW (r : Rw) : D := .tup [.int r.t, .int r.h, .str (wrd r.b), .str r.n]
theorem w_enc (r : Rw) : encW r = .tup [.int r.t, .int r.h, .str (wrd r.b), .str r.n] := rfl
structure RowOk (r : Rw) : Prop where
  t0 : 0 ≤ r.t
  t1 : r.t ≤ 1000000
  h0 : 1 ≤ r.h
  h1 : r.h ≤ 4
  nm : NameOk r.n
theorem wrd_in (b : Bool) : sIn (.str (wrd b)) (.tup [.str "begin", .str "end"]) = some (.f (.bl true)) := by
  cases b <;> rfl
theorem m_isrow {r : Rw} (h : RowOk r) : sem_is_row [encW r] = .ret (.f (.bl true)) := by
  have hw := wrd_in r.b
  rw [w_enc]
  obtain ⟨W, hW⟩ : ∃ W, W = wrd r.b := ⟨_, rfl⟩
  rw [← hW] at hw ⊢
  unfold sem_is_row g_is_row
  push_cast [m_countT h.t0 h.t1, m_countT h.h0 h.h1, hw, h.nm.1, show (2 : Nat) ≤ lineN by decide, List.length_cons, List.length_nil]
theorem m_needrows {rs : List Rw} (h : ∀ r ∈ rs, RowOk r) (hl : rs.length ≤ 200) : sem_need_rows [.lst (rs.map encW)] = .ret (.f .non) := by
  unfold sem_need_rows g_need_rows
  push_cast [List.length_map, show ¬ ((rs.length : Int) > 200) by omega]
  rw [lcL_one encW (fun _ => D.bl true) rs rfl rfl (fun r hr => by push_cast [m_isrow (h r hr)]) (by omega)]
  push_cast [all_true]
def rowsT (h : Int) : Tr → List Rw
  | .nil => []
  | .cons n a b i r => ⟨a, h, true, n⟩ :: (rowsT h i ++ ⟨b, h, false, n⟩ :: rowsT h r)
def rowX (h : Int) (x : Nd) : List Rw := ⟨x.a, h, true, x.n⟩ :: (rowsT h x.i ++ [⟨x.b, h, false, x.n⟩])
theorem rowsT_kids (h : Int) : ∀ t, rowsT h t = (kids t).flatMap (rowX h)
  | .nil => rfl
  | .cons n a b i r => by rw [rowsT, kids, List.flatMap_cons, rowsT_kids h r]; simp [rowX]
theorem rowsT_len (h : Int) : ∀ t, (rowsT h t).length = 2 * cnt t
  | .nil => rfl
  | .cons n a b i r => by rw [rowsT, cnt, List.length_cons, List.length_append, List.length_cons, rowsT_len h i, rowsT_len h r]; omega
theorem rowX_pre {h : Int} {t : Tr} {pre post : List Nd} (e : kids t = pre ++ post) : (pre.flatMap (rowX h)).length ≤ 2 * cnt t := by
  rw [← rowsT_len h, rowsT_kids, e, List.flatMap_append, List.length_append]
  omega
theorem m_rowsin (h : Int) (n : Nat) : ∀ (t : Tr), depth t < n → cnt t ≤ 120 → sem_rows_in n [.int h, .tup (encF t)] = .ret (.t (.lst ((rowsT h t).map encW))) := by
  induction n with
  | zero => intro t h; omega
  | succ n ih =>
    intro t hd hc
    unfold sem_rows_in g_rows_in
    push_cast [show (0 : Nat) ≤ lineN from Nat.zero_le _, encF_kids]
    refine fin_for encN (fun pre post env => ∃ c3 c4 c5 c6, env = [.frz (.int h), .frz (.tup ((kids t).map encN)), .own (.lst ((pre.flatMap (rowX h)).map encW)), c3, c4, c5, c6]) (kids t) _ ⟨_, _, _, _, rfl⟩ ?_ ?_
    · rintro pre x post env e ⟨c3, c4, c5, c6, rfl⟩
      have hx : x ∈ kids t := by rw [e]; simp
      refine ⟨_, rfl, ?_⟩
      have e1 := ih x.i (by have := kid_depth hx; omega) (by have := kid_cnt hx; omega)
      have e2 : ((pre ++ [x]).flatMap (rowX h)).length ≤ 2 * cnt t := rowX_pre (post := post) (by rw [e, List.append_assoc]; rfl)
      have e3 : (pre ++ [x]).flatMap (rowX h) = pre.flatMap (rowX h) ++ rowX h x := by rw [List.flatMap_append]; simp
      have e4 : (rowX h x).length = (rowsT h x.i).length + 2 := by unfold rowX; simp
      rw [e3, List.length_append, e4] at e2
      push_cast [nd_enc x, e1, show (4 : Nat) ≤ lineN by decide, List.length_map, List.length_append, List.length_cons, List.length_nil, sz_ok (show (pre.flatMap (rowX h)).length + 1 ≤ 16777216 by omega), sz_ok (show (pre.flatMap (rowX h)).length + (0 + 1) + (rowsT h x.i).length ≤ 16777216 by omega), sz_ok (show (pre.flatMap (rowX h)).length + (0 + 1) + (rowsT h x.i).length + 1 ≤ 16777216 by omega)]
      have e5 : (pre.flatMap (rowX h)).map encW ++ [D.tup [D.int x.a, D.int h, D.str "begin", D.str x.n]] ++ (rowsT h x.i).map encW ++ [D.tup [D.int x.b, D.int h, D.str "end", D.str x.n]] = ((pre ++ [x]).flatMap (rowX h)).map encW := by
        rw [e3, List.map_append, List.append_assoc, List.append_assoc]
        unfold rowX
        rw [List.map_cons, List.map_append]
        rfl
      rw [e5]
      exact ⟨_, _, _, _, rfl⟩
    · rintro env ⟨c3, c4, c5, c6, rfl⟩
      push_cast [rowsT_kids]
def rowsH (hs : List (Int × Tr)) : List Rw := hs.flatMap fun p => rowsT p.1 p.2
theorem rowsH_len : ∀ {hs : List (Int × Tr)}, (∀ p ∈ hs, cnt p.2 ≤ 120) → (rowsH hs).length ≤ 240 * hs.length := fun {hs} h => len_flat fun p hp => by rw [rowsT_len]; have := h p hp; omega
theorem m_rowsof {hs : List (Int × Tr)} (H : Hands hs) : sem_rows_of [.dK (encH hs)] = .ret (.t (.lst ((rowsH (ordH hs)).map encW))) := by
  have hp := ordH_perm hs
  have hl : (ordH hs).length ≤ 4 := by rw [hp.length_eq]; exact H.few
  unfold sem_rows_of g_rows_of
  push_cast [m_need H, show (0 : Nat) ≤ lineN from Nat.zero_le _, sort_H]
  refine fin_for (fun p : Int × Tr => .int p.1) (fun pre post env => ∃ c, env = [.frz (.dK (encH hs)), .own (.lst ((rowsH pre).map encW)), c]) (ordH hs) _ ⟨_, rfl⟩ ?_ ?_
  · rintro pre ⟨h, t⟩ post env e ⟨c, rfl⟩
    refine ⟨_, rfl, ?_⟩
    have hm : (h, t) ∈ hs := hp.mem_iff.mp (by rw [e]; simp)
    have e1 := m_rowsin h 6 t (by have : depth t ≤ 4 := H.deep _ hm; omega) (H.small _ hm)
    have hpre : (rowsH (pre ++ [(h, t)])).length ≤ 240 * (pre ++ [(h, t)]).length := rowsH_len fun p hp' => H.small p (hp.mem_iff.mp (by rw [e]; rcases List.mem_append.mp hp' with z | z; exact List.mem_append_left _ z; rw [List.mem_singleton] at z; subst z; simp))
    have e3 : rowsH (pre ++ [(h, t)]) = rowsH pre ++ rowsT h t := by unfold rowsH; rw [List.flatMap_append]; simp
    have hpl : (pre ++ [(h, t)]).length ≤ 4 := by
      have := congrArg List.length e
      rw [List.length_append, List.length_cons] at this
      rw [List.length_append, List.length_singleton]; omega
    rw [e3, List.length_append] at hpre
    push_cast [ix_H H.nd hm, e1, List.length_map, sz_ok (show (rowsH pre).length + (rowsT h t).length ≤ 16777216 by omega)]
    refine ⟨.frz (.int h), ?_⟩
    rw [e3, List.map_append]
  · rintro env ⟨c, rfl⟩
    push_cast []
theorem rowsT_ok {h : Int} (h0 : 1 ≤ h) (h1 : h ≤ 4) : ∀ {t : Tr} {lo hi : Int}, Good lo hi t → 0 ≤ lo → hi ≤ 1000000 → ∀ r ∈ rowsT h t, RowOk r
  | .cons n a b i r, lo, hi, ⟨g0, g1, g2, g3, g4, g5⟩, l, u, x, hx => by
    rw [rowsT] at hx
    rcases List.mem_cons.mp hx with rfl | hx
    · exact ⟨by show 0 ≤ a; omega, by show a ≤ 1000000; omega, h0, h1, g0⟩
    · rcases List.mem_append.mp hx with hx | hx
      · exact rowsT_ok h0 h1 g4 (by omega) (by omega) x hx
      · rcases List.mem_cons.mp hx with rfl | hx
        · exact ⟨by show 0 ≤ b; omega, by show b ≤ 1000000; omega, h0, h1, g0⟩
        · exact rowsT_ok h0 h1 g5 (by omega) u x hx
theorem rowsH_ok {hs : List (Int × Tr)} (H : Hands hs) : ∀ r ∈ rowsH hs, RowOk r := fun r hr => by
  obtain ⟨p, hp, h⟩ := List.mem_flatMap.mp hr
  exact rowsT_ok (H.rng p hp).1 (H.rng p hp).2 (H.good p hp) (Int.le_refl _) (Int.le_refl _) r h
/-! ### dicts by hands -/
def encD {α : Type} (e : α → D) (ks : List Int) (g : Int → α) : List (Key × D) := ks.map fun h => ((Sum.inl h : Key), e (g h))
def upd {α : Type} (g : Int → α) (h : Int) (v : α) : Int → α := fun x => if x = h then v else g x
structure Dk {α : Type} (d0 : α) (ks : List Int) (g : Int → α) : Prop where
  nd : ks.Nodup
  out : ∀ h, h ∉ ks → g h = d0
theorem Dk.nil {α : Type} (d0 : α) : Dk d0 [] fun _ => d0 := ⟨List.nodup_nil, fun _ _ => rfl⟩
theorem look_D {α : Type} (e : α → D) (g : Int → α) (h : Int) : ∀ ks : List Int, look (encD e ks g) (.inl h) = if h ∈ ks then some (e (g h)) else none
  | [] => rfl
  | k :: ks => by
    have ih := look_D e g h ks
    unfold encD look at ih ⊢
    rw [List.map_cons, List.find?_cons]
    by_cases z : k = h
    · subst z; simp
    · have z2 : ¬ h = k := fun w => z w.symm
      simp only [Sum.inl.injEq, z, decide_false, List.mem_cons, z2, false_or]
      exact ih
theorem get_D {α : Type} {d0 : α} {e : α → D} {ks : List Int} {g : Int → α} (K : Dk d0 ks g) (h : Int) : (look (encD e ks g) (.inl h)).getD (e d0) = e (g h) := by
  rw [look_D]
  by_cases z : h ∈ ks
  · rw [if_pos z]; rfl
  · rw [if_neg z, K.out h z]; rfl
theorem put_D {α : Type} {d0 : α} (e : α → D) {ks : List Int} {g : Int → α} (K : Dk d0 ks g) (h : Int) (v : α) : ∃ ks', put (encD e ks g) (.inl h) (e v) = encD e ks' (upd g h v) ∧ Dk d0 ks' (upd g h v) ∧ ks'.length ≤ ks.length + 1 ∧ ∀ x, x ∈ ks' ↔ x = h ∨ x ∈ ks := by
  by_cases z : h ∈ ks
  · refine ⟨ks, ?_, ⟨K.nd, fun x hx => ?_⟩, by omega, fun x => ?_⟩
    · unfold put
      have hany : ((encD e ks g).any fun e => decide (e.1 = Sum.inl h)) = true := List.any_eq_true.mpr ⟨((Sum.inl h : Key), e (g h)), List.mem_map.mpr ⟨h, z, rfl⟩, by simp⟩
      rw [if_pos hany]
      unfold encD
      rw [List.map_map]
      refine List.map_congr_left fun x _ => ?_
      unfold upd
      by_cases w : x = h
      · subst w; simp
      · simp [w]
    · unfold upd
      rw [if_neg (fun (w : x = h) => hx (by rw [w]; exact z)), K.out x hx]
    · constructor
      · exact fun w => .inr w
      · rintro (rfl | w)
        · exact z
        · exact w
  · refine ⟨ks ++ [h], ?_, ⟨?_, fun x hx => ?_⟩, by simp, fun x => by simp [or_comm]⟩
    · unfold put
      rw [if_neg]
      · unfold encD
        rw [List.map_append]
        refine congr (congrArg _ (List.map_congr_left fun x hx => ?_)) ?_
        · unfold upd; rw [if_neg (fun (w : x = h) => z (by rw [← w]; exact hx))]
        · simp [upd]
      · intro w
        obtain ⟨q, hq, e1⟩ := List.any_eq_true.mp w
        obtain ⟨x, hx, rfl⟩ := List.mem_map.mp hq
        have : x = h := by simpa using e1
        exact z (this ▸ hx)
    · exact List.nodup_append.mpr ⟨K.nd, by simp, fun x hx y hy w => by rw [List.mem_singleton] at hy; subst hy; subst w; exact z hx⟩
    · rw [List.mem_append, List.mem_singleton] at hx
      unfold upd
      rw [if_neg fun (w : x = h) => hx (.inr w), K.out x fun w => hx (.inl w)]
theorem keys_D {α : Type} (e : α → D) (ks : List Int) (g : Int → α) : (encD e ks g).map (fun x => kD x.1) = ks.map D.int := by unfold encD; rw [List.map_map]; rfl
theorem ix_Dk {α : Type} {e : α → D} {ks : List Int} {g : Int → α} {h : Int} (hm : h ∈ ks) : sIx (.dK (encD e ks g)) (.int h) = some (.f (e (g h))) := e_ixK rfl (by rw [look_D, if_pos hm])
/-! ### faults, by a plain walk -/
def encI (p : Int × Str) : D := .tup [.int p.1, .str p.2]
def encI2 (ps : List (Int × Str)) : D := .lst (ps.map encI)
structure FSt where
  last : Int → Int
  stk : Int → List (Int × Str)
  fnd : List (Int × Str)
def fE (i : Int) (s : FSt) (r : Rw) : List (Int × Str) := if r.t < s.last r.h then s.fnd ++ [(i, ("early" : Str))] else s.fnd
theorem fE_len (i : Int) (s : FSt) (r : Rw) : (fE i s r).length ≤ s.fnd.length + 1 := by
  unfold fE
  split <;> simp
def fStep (i : Int) (s : FSt) (r : Rw) : FSt :=
  let f := fE i s r
  let l := upd s.last r.h (max r.t (s.last r.h))
  if r.b = true then ⟨l, upd s.stk r.h (s.stk r.h ++ [(i, r.n)]), f⟩
  else match (s.stk r.h).getLast? with
    | none => ⟨l, s.stk, f ++ [(i, ("lone" : Str))]⟩
    | some x => if x.2 = r.n then ⟨l, upd s.stk r.h (s.stk r.h).dropLast, f⟩ else ⟨l, s.stk, f ++ [(i, ("other" : Str))]⟩
def fRun (rs : List (Rw × Nat)) : FSt := rs.foldl (fun s p => fStep p.2 s p.1) ⟨fun _ => 0, fun _ => [], []⟩
theorem fRun_snoc (rs : List (Rw × Nat)) (p : Rw × Nat) : fRun (rs ++ [p]) = fStep p.2 (fRun rs) p.1 := by unfold fRun; rw [List.foldl_append]; rfl
theorem fStep_len (i : Int) (s : FSt) (r : Rw) : (fStep i s r).fnd.length ≤ s.fnd.length + 2 := by
  have h := fE_len i s r
  unfold fStep
  dsimp only
  split
  · show (fE i s r).length ≤ _; omega
  · split
    · show (fE i s r ++ _).length ≤ _; rw [List.length_append]; simp only [List.length_singleton]; omega
    · split
      · show (fE i s r).length ≤ _; omega
      · show (fE i s r ++ _).length ≤ _; rw [List.length_append]; simp only [List.length_singleton]; omega
theorem fStep_stk (i : Int) (s : FSt) (r : Rw) (h : Int) : ((fStep i s r).stk h).length ≤ (s.stk h).length + 1 ∧ ∀ x ∈ (fStep i s r).stk h, x ∈ s.stk h ∨ x.2 = r.n := by
  have key : ∀ v : List (Int × Str), v.length ≤ (s.stk r.h).length + 1 → (∀ x ∈ v, x ∈ s.stk r.h ∨ x.2 = r.n) → ((upd s.stk r.h v) h).length ≤ (s.stk h).length + 1 ∧ ∀ x ∈ (upd s.stk r.h v) h, x ∈ s.stk h ∨ x.2 = r.n := by
    intro v h1 h2
    unfold upd
    by_cases z : h = r.h
    · subst z; rw [if_pos rfl]; exact ⟨h1, h2⟩
    · rw [if_neg z]; exact ⟨by omega, fun x hx => .inl hx⟩
  unfold fStep
  dsimp only
  split
  · refine key _ (by simp) fun x hx => ?_
    rcases List.mem_append.mp hx with z | z
    · exact .inl z
    · rw [List.mem_singleton] at z; subst z; exact .inr rfl
  · split
    · exact ⟨Nat.le_succ _, fun x hx => .inl hx⟩
    · split
      · exact key _ (by rw [List.length_dropLast]; omega) fun x hx => .inl ((List.dropLast_sublist _).subset hx)
      · exact ⟨Nat.le_succ _, fun x hx => .inl hx⟩
structure FOk (n : Nat) (s : FSt) : Prop where
  fl : s.fnd.length ≤ 2 * n
  sl : ∀ h, (s.stk h).length ≤ n
  nm : ∀ h, ∀ x ∈ s.stk h, NameOk x.2
theorem FOk.step {n : Nat} {s : FSt} (k : FOk n s) (i : Int) {r : Rw} (h : RowOk r) : FOk (n + 1) (fStep i s r) := by
  refine ⟨?_, fun a => ?_, fun a x hx => ?_⟩
  · have := fStep_len i s r; have := k.fl; omega
  · have := (fStep_stk i s r a).1; have := k.sl a; omega
  · rcases (fStep_stk i s r a).2 x hx with z | z
    · exact k.nm a x z
    · rw [z]; exact h.nm
theorem FOk.fold : ∀ (rs : List (Rw × Nat)) {n : Nat} {s : FSt}, FOk n s → (∀ p ∈ rs, RowOk p.1) → FOk (n + rs.length) (rs.foldl (fun s p => fStep p.2 s p.1) s)
  | [], _, _, k, _ => k
  | p :: rs, n, s, k, h => by
    have := FOk.fold rs (k.step p.2 (h p (by simp))) fun q hq => h q (by simp [hq])
    rw [List.length_cons, List.foldl_cons, show n + (rs.length + 1) = n + 1 + rs.length by omega]
    exact this
theorem FOk.run (rs : List (Rw × Nat)) (h : ∀ p ∈ rs, RowOk p.1) : FOk rs.length (fRun rs) := by
  have := FOk.fold rs (n := 0) (s := ⟨fun _ => 0, fun _ => [], []⟩) ⟨by simp, fun _ => by simp, fun h x hx => by simp at hx⟩ h
  rw [Nat.zero_add] at this
  exact this
theorem lay_I {p : Int × Str} (h : NameOk p.2) : Lay 1 (encI p) := lay_tup (n := 0) fun x hx => by
  simp only [List.mem_cons, List.not_mem_nil, or_false] at hx
  rcases hx with rfl | rfl
  · exact lay_int _ _
  · exact lay_str _ h.2
theorem lay_I2 {ps : List (Int × Str)} (h : ∀ p ∈ ps, NameOk p.2) : Lay 60 (encI2 ps) := lay_list (n := 1) (by decide) fun p hp => lay_I (h p hp)
theorem wrd_eq (b : Bool) : sEq (.str (wrd b)) (.str "begin") = some (.f (.bl b)) := by
  rw [e_eqS]
  cases b
  · rw [show decide (wrd false = ("begin" : Str)) = false by decide +kernel]
  · rw [show decide (wrd true = ("begin" : Str)) = true by decide +kernel]
theorem zip_W (rs : List Rw) : ((rs.map encW).zipIdx.map fun p => D.tup [.int (p.2 : Nat), p.1]) = rs.zipIdx.map fun p : Rw × Nat => D.tup [.int (p.2 : Nat), encW p.1] := by
  rw [List.zipIdx_map, List.map_map]
  rfl
theorem lcL_nil {vs : List Nat} {t : D → Cs → Option Cs} {g : Cs → Out D} {env : Cs} (hf : freeAt env vs = true) : lcL vs t (noE gYes) (noE g) [] env [] = .ok (.tmp (.lst [])) env :=
  lcL_allE encI encI (fun _ => []) ([] : List (Int × Str)) hf (fun y hy => by cases hy) (by simp)

/-! ### pairs of a place and a word, sorted -/
def ordW (ps : List (Int × Str)) : List (Int × Str) := ps.mergeSort fun a b => PySem.W.dataLe false pyD (encI a) (encI b)
theorem ordW_perm (ps : List (Int × Str)) : (ordW ps).Perm ps := List.mergeSort_perm _ _
theorem lxW {x y : PyData} : PySem.W.dataLt x y = PyProof.Rows.lexLt PyProof.Rows.itemOrd (PySem.W.keyToks x) (PySem.W.keyToks y) := rfl
theorem dleW {β : Type} (k : β → PyData) (a b : β) : PySem.W.dataLe false k a b = !PySem.W.dataLt (k b) (k a) := by rw [PySem.W.dataLe_eq]; rfl
theorem dleW_tot {β : Type} (k : β → PyData) (a b : β) : (PySem.W.dataLe false k a b || PySem.W.dataLe false k b a) = true := by
  rw [dleW, dleW, lxW, lxW]
  cases h1 : PyProof.Rows.lexLt PyProof.Rows.itemOrd (PySem.W.keyToks (k b)) (PySem.W.keyToks (k a)) with
  | false => rfl
  | true =>
    cases h2 : PyProof.Rows.lexLt PyProof.Rows.itemOrd (PySem.W.keyToks (k a)) (PySem.W.keyToks (k b)) with
    | false => rfl
    | true =>
      have := (PyProof.Rows.listOrd PyProof.Rows.itemOrd).trans _ _ _ h1 h2
      rw [(PyProof.Rows.listOrd PyProof.Rows.itemOrd).irrefl] at this
      cases this
theorem dleW_tr {β : Type} (k : β → PyData) (a b c : β) (h1 : PySem.W.dataLe false k a b = true) (h2 : PySem.W.dataLe false k b c = true) : PySem.W.dataLe false k a c = true := by
  rw [dleW, lxW] at *
  rw [Bool.not_eq_true'] at *
  cases h3 : PyProof.Rows.lexLt PyProof.Rows.itemOrd (PySem.W.keyToks (k c)) (PySem.W.keyToks (k a)) with
  | false => rfl
  | true =>
    rcases (PyProof.Rows.listOrd PyProof.Rows.itemOrd).negTrans _ (PySem.W.keyToks (k b)) _ h3 with z | z
    · have z : PyProof.Rows.lexLt PyProof.Rows.itemOrd (PySem.W.keyToks (k c)) (PySem.W.keyToks (k b)) = true := z
      rw [h2] at z; cases z
    · have z : PyProof.Rows.lexLt PyProof.Rows.itemOrd (PySem.W.keyToks (k b)) (PySem.W.keyToks (k a)) = true := z
      rw [h1] at z; cases z
theorem dleW_anti {β : Type} (k : β → PyData) (a b : β) (h1 : PySem.W.dataLe false k a b = true) (h2 : PySem.W.dataLe false k b a = true) : PySem.W.keyToks (k a) = PySem.W.keyToks (k b) := by
  rw [dleW, lxW] at *
  rw [Bool.not_eq_true'] at *
  exact (PyProof.Rows.listOrd PyProof.Rows.itemOrd).total _ _ h2 h1
theorem toks_W (a : Int × Str) : PySem.W.keyToks (pyD (encI a)) = [.inl 1, .inl a.1, .inl 1, .inr a.2.cps.toList, .inl 0] := rfl
theorem toks_inj {a b : Int × Str} (h : PySem.W.keyToks (pyD (encI a)) = PySem.W.keyToks (pyD (encI b))) : a = b := by
  rw [toks_W, toks_W] at h
  simp only [List.cons.injEq, Sum.inl.injEq, Sum.inr.injEq, true_and, and_true] at h
  obtain ⟨x, ⟨c⟩⟩ := a
  obtain ⟨y, ⟨d⟩⟩ := b
  obtain ⟨h1, h2⟩ := h
  have h3 : x = y := h1
  have h4 : c = d := Array.toList_inj.mp h2
  rw [h3, h4]
theorem ordW_sorted (ps : List (Int × Str)) : (ordW ps).Pairwise fun a b => PySem.W.dataLe false pyD (encI a) (encI b) = true :=
  List.pairwise_mergeSort (fun a b c => dleW_tr pyD (encI a) (encI b) (encI c)) (fun a b => dleW_tot pyD (encI a) (encI b)) ps
theorem ordW_ext {ps qs : List (Int × Str)} (h : ps.Perm qs) : ordW ps = ordW qs :=
  List.Perm.eq_of_pairwise (fun a b _ _ h1 h2 => toks_inj (dleW_anti pyD (encI a) (encI b) h1 h2)) (ordW_sorted ps) (ordW_sorted qs) ((ordW_perm ps).trans (h.trans (ordW_perm qs).symm))
theorem pyL_W : ∀ ps : List (Int × Str), pyL (ps.map encI) = some (ps.map fun a => .tuple [.int a.1, .str a.2])
  | [] => rfl
  | p :: ps => by rw [List.map_cons, pyL, pyL_W ps]; rfl
theorem canSort_W (ps : List (Int × Str)) : canSort (ps.map fun a => PyData.tuple [.int a.1, .str a.2]) = true := by
  unfold canSort alikeB sortB depOk
  rw [Bool.and_eq_true, Bool.and_eq_true, Bool.or_eq_true]
  refine ⟨⟨?_, .inl ?_⟩, ?_⟩
  · rw [List.all_map, List.all_eq_true]
    intro x _
    show ((ps.map fun a => PyData.tuple [.int a.1, .str a.2]).all fun q => PySem.W.alike (.tuple [.int x.1, .str x.2]) q) = true
    rw [List.all_map, List.all_eq_true]
    intro y _
    simp [PySem.W.alike, PySem.W.alikeAll]
  · rw [List.all_map, List.all_eq_true]
    intro x _
    rfl
  · rw [List.all_map, List.all_eq_true]
    intro x _
    simp [PyData.depth, PyData.depthAll]
theorem e_sortedW (ps : List (Int × Str)) : sSorted (.lst (ps.map encI)) = some (.t (.lst ((ordW ps).map encI))) := by
  show srtItems (ps.map encI) = _
  unfold srtItems
  rw [pyL_W]
  dsimp only
  rw [if_pos (canSort_W ps)]
  unfold sortD ordW
  rw [PySem.W.sort_maps encI (fun _ _ _ _ => rfl)]
/-! ### faults, whatever is found -/
def late1 (s : FSt) (h : Int) : List (Int × Str) := (s.stk h).map fun x => (x.1, ("late" : Str))

theorem m_faultsX {rs : List Rw} (h : ∀ r ∈ rs, RowOk r) (hl : rs.length ≤ 200) : ∃ k2, Dk [] k2 (fRun rs.zipIdx).stk ∧ (∀ x ∈ k2, x ∈ rs.zipIdx.map (·.1.h)) ∧ sem_faults_of [.lst (rs.map encW)] = .ret (.t (.lst ((ordW ((fRun rs.zipIdx).fnd ++ k2.flatMap (late1 (fRun rs.zipIdx)))).map encI))) := by
  obtain ⟨Pr, hPr⟩ : ∃ Pr : OR → Prop, Pr = fun o => ∃ k2, Dk [] k2 (fRun rs.zipIdx).stk ∧ (∀ x ∈ k2, x ∈ rs.zipIdx.map (·.1.h)) ∧ o = .ret (.t (.lst ((ordW ((fRun rs.zipIdx).fnd ++ k2.flatMap (late1 (fRun rs.zipIdx)))).map encI))) := ⟨_, rfl⟩
  suffices hh : Pr (sem_faults_of [.lst (rs.map encW)]) by rw [hPr] at hh; exact hh
  have zero : (0 : Nat) ≤ lineN := Nat.zero_le _
  have two : (2 : Nat) ≤ lineN := by decide
  unfold sem_faults_of g_faults_of
  push_cast [zero, zip_W]
  refine fin_exists (Pr := Pr) (fun p : Rw × Nat => D.tup [.int (p.2 : Nat), encW p.1]) (fun pre post env => ∃ k1 k2 c4 c5 c6 c7 c8 c9, env = [.frz (.lst (rs.map encW)), .own (.dK (encD D.int k1 (fRun pre).last)), .own (.dK (encD encI2 k2 (fRun pre).stk)), .own (.lst ((fRun pre).fnd.map encI)), c4, c5, c6, c7, c8, c9] ∧ Dk 0 k1 (fRun pre).last ∧ Dk [] k2 (fRun pre).stk ∧ k1.length ≤ pre.length ∧ k2.length ≤ pre.length ∧ FrC c4 ∧ FrC c8 ∧ ∀ x ∈ k2, x ∈ pre.map (·.1.h)) rs.zipIdx _ ⟨[], [], _, _, _, _, _, _, rfl, .nil 0, .nil [], Nat.le_refl _, Nat.le_refl _, .inl rfl, .inl rfl, by simp⟩ ?_ ?_
  · rintro pre ⟨r, i⟩ post env e ⟨k1, k2, c4, c5, c6, c7, c8, c9, rfl, K1, K2, l1, l2, f4, f8, hin⟩
    refine ⟨_, rfl, ?_⟩
    have hmem : ∀ p ∈ pre ++ [(r, i)], p.1 ∈ rs := fun p hp => by
      have : p ∈ rs.zipIdx := by rw [e]; rcases List.mem_append.mp hp with z | z; exact List.mem_append_left _ z; rw [List.mem_singleton] at z; subst z; simp
      exact List.fst_mem_of_mem_zipIdx this
    have F := FOk.run pre fun p hp => h _ (hmem p (by simp [hp]))
    have hpl : pre.length < 200 := by
      have := congrArg List.length e
      rw [List.length_zipIdx, List.length_append, List.length_cons] at this
      omega
    have hr := h r (hmem (r, i) (by simp))
    generalize hs : fRun pre = s at *
    obtain ⟨k1', p1, K1', m1, _⟩ := put_D D.int K1 r.h (max r.t (s.last r.h))
    have g1 : (look (encD D.int k1 s.last) (.inl r.h)).getD (.int 0) = .int (s.last r.h) := get_D (e := D.int) K1 r.h
    have g2 : (look (encD encI2 k2 s.stk) (.inl r.h)).getD (.lst []) = encI2 (s.stk r.h) := get_D (e := encI2) K2 r.h
    have wb := wrd_eq r.b
    have hw : encW r = .tup [.int r.t, .int r.h, .str (wrd r.b), .str r.n] := rfl
    generalize wrd r.b = W at wb hw
    simp only [hw]
    have hsz1 := sz_ok (show (s.fnd.map encI).length + 1 ≤ 16777216 by rw [List.length_map]; have := F.fl; omega)
    have hsz2 := sz_ok (show (encD D.int k1 s.last).length + 1 ≤ 16777216 by unfold encD; rw [List.length_map]; omega)
    have hsz3 := sz_ok (show (encD encI2 k2 s.stk).length + 1 ≤ 16777216 by unfold encD; rw [List.length_map]; omega)
    have hsz4 := sz_ok (show ((fE i s r).map encI).length + 1 ≤ 16777216 by rw [List.length_map]; have := F.fl; have := fE_len i s r; omega)
    have hst : fRun (pre ++ [(r, i)]) = fStep i s r := by rw [fRun_snoc, hs]
    have hlp : (pre ++ [(r, i)]).length = pre.length + 1 := by simp
    have one : (1 : Nat) ≤ lineN := by decide
    have sub0 : ∀ x ∈ k2, x ∈ (pre ++ [(r, i)]).map (·.1.h) := fun x hx => by rw [List.map_append]; exact List.mem_append_left _ (hin x hx)
    have subN : ∀ {ks : List Int}, (∀ x, x ∈ ks ↔ x = r.h ∨ x ∈ k2) → ∀ x ∈ ks, x ∈ (pre ++ [(r, i)]).map (·.1.h) := fun hk x hx => by
      rcases (hk x).mp hx with rfl | z
      · rw [List.map_append]; exact List.mem_append_right _ (by simp)
      · exact sub0 x z
    rw [hlp]
    cases hb : r.b with
    | true =>
      rw [hb] at wb
      obtain ⟨k2', p2, K2', m2, w2⟩ := put_D encI2 K2 r.h (s.stk r.h ++ [((i : Int), r.n)])
      have hS : fStep i s r = ⟨upd s.last r.h (max r.t (s.last r.h)), upd s.stk r.h (s.stk r.h ++ [((i : Int), r.n)]), fE i s r⟩ := by unfold fStep; simp [hb]
      have hadd : sAdd (encI2 (s.stk r.h)) (.lst [.tup [.int (i : Nat), .str r.n]]) = some (.t (encI2 (s.stk r.h ++ [((i : Int), r.n)]))) := by
        refine (if_pos (sz_ok (show ((s.stk r.h).map encI).length + 1 ≤ 16777216 by rw [List.length_map]; have := F.sl r.h; omega))).trans ?_
        unfold encI2
        rw [List.map_append]
        rfl
      by_cases he : r.t < s.last r.h
      · have hE : s.fnd.map encI ++ [D.tup [.int (i : Nat), .str "early"]] = (fE i s r).map encI := by unfold fE; rw [if_pos he, List.map_append]; rfl
        push_cast [zero, two, g2, g1, wb, he, hsz1]
        rw [hE]
        push_cast [g1, p1, wb, hsz2, zero, two, one, hadd, hsz3, p2]
        rw [hst, hS]
        exact ⟨k1', k2', _, _, _, _, _, _, rfl, K1', K2', by omega, by omega, .inr ⟨_, rfl⟩, .inr ⟨_, rfl⟩, subN w2⟩
      · have hE : s.fnd = fE i s r := by unfold fE; rw [if_neg he]
        push_cast [zero, two, g2, g1, wb, he]
        rw [hE]
        push_cast [g1, p1, wb, hsz2, zero, two, one, hadd, hsz3, p2]
        rw [hst, hS]
        exact ⟨k1', k2', _, _, _, _, _, _, rfl, K1', K2', by omega, by omega, .inr ⟨_, rfl⟩, .inr ⟨_, rfl⟩, subN w2⟩
    | false =>
      rw [hb] at wb
      have hq := sEq_nilL (lay_I2 (F.nm r.h))
      rcases List.eq_nil_or_concat (s.stk r.h) with hk0 | ⟨ks, x, hk0⟩
      · have hS : fStep i s r = ⟨upd s.last r.h (max r.t (s.last r.h)), s.stk, fE i s r ++ [((i : Int), ("lone" : Str))]⟩ := by unfold fStep; simp [hb, hk0]
        rw [hk0] at hq g2
        rw [List.map_nil, List.isEmpty_nil] at hq
        rw [show encI2 [] = D.lst [] from rfl] at g2
        by_cases he : r.t < s.last r.h
        · have hE : s.fnd.map encI ++ [D.tup [.int (i : Nat), .str "early"]] = (fE i s r).map encI := by unfold fE; rw [if_pos he, List.map_append]; rfl
          push_cast [zero, two, g2, g1, wb, he, hsz1]
          rw [hE]
          push_cast [g1, p1, wb, hsz2, zero, two, one, hq, hsz4]
          rw [hst, hS]
          exact ⟨k1', k2, _, _, _, _, _, _, by rw [List.map_append]; rfl, K1', K2, by omega, by omega, .inr ⟨_, rfl⟩, .inr ⟨_, rfl⟩, sub0⟩
        · have hE : s.fnd = fE i s r := by unfold fE; rw [if_neg he]
          push_cast [zero, two, g2, g1, wb, he]
          rw [hE]
          push_cast [g1, p1, wb, hsz2, zero, two, one, hq, hsz4]
          rw [hst, hS]
          exact ⟨k1', k2, _, _, _, _, _, _, by rw [List.map_append]; rfl, K1', K2, by omega, by omega, .inr ⟨_, rfl⟩, .inr ⟨_, rfl⟩, sub0⟩
      · rw [List.concat_eq_append] at hk0
        have hcut : cutD ((s.stk r.h).map encI) none (some (-1)) = ks.map encI := by rw [cut_init, hk0, List.map_append]; simp
        have e1 : (s.stk r.h).map encI = ks.map encI ++ [.tup [.int x.1, .str x.2]] := by rw [hk0, List.map_append]; rfl
        have hix : sIx (.lst ((s.stk r.h).map encI)) (.int (-1)) = some (.f (.tup [.int x.1, .str x.2])) := by rw [e1]; exact ix_lastL _ _
        have he1 : ((s.stk r.h).map encI).isEmpty = false := by rw [e1]; simp
        rw [he1] at hq
        rw [show encI2 (s.stk r.h) = D.lst ((s.stk r.h).map encI) from rfl] at g2
        by_cases hn : x.2 = r.n
        · obtain ⟨k2', p2, K2', m2, w2⟩ := put_D encI2 K2 r.h ks
          have hS : fStep i s r = ⟨upd s.last r.h (max r.t (s.last r.h)), upd s.stk r.h ks, fE i s r⟩ := by unfold fStep; simp [hb, hk0, hn]
          have hne := hn
          rw [show encI2 ks = D.lst (ks.map encI) from rfl] at p2
          by_cases he : r.t < s.last r.h
          · have hE : s.fnd.map encI ++ [D.tup [.int (i : Nat), .str "early"]] = (fE i s r).map encI := by unfold fE; rw [if_pos he, List.map_append]; rfl
            push_cast [zero, two, g2, g1, wb, he, hsz1]
            rw [hE]
            push_cast [g1, p1, wb, hsz2, zero, two, one, hq, hix, hne, hcut, hsz3, p2]
            rw [hst, hS]
            exact ⟨k1', k2', _, _, _, _, _, _, rfl, K1', K2', by omega, by omega, .inr ⟨_, rfl⟩, .inr ⟨_, rfl⟩, subN w2⟩
          · have hE : s.fnd = fE i s r := by unfold fE; rw [if_neg he]
            push_cast [zero, two, g2, g1, wb, he]
            rw [hE]
            push_cast [g1, p1, wb, hsz2, zero, two, one, hq, hix, hne, hcut, hsz3, p2]
            rw [hst, hS]
            exact ⟨k1', k2', _, _, _, _, _, _, rfl, K1', K2', by omega, by omega, .inr ⟨_, rfl⟩, .inr ⟨_, rfl⟩, subN w2⟩
        · have hS : fStep i s r = ⟨upd s.last r.h (max r.t (s.last r.h)), s.stk, fE i s r ++ [((i : Int), ("other" : Str))]⟩ := by unfold fStep; simp [hb, hk0, hn]
          have hne := hn
          by_cases he : r.t < s.last r.h
          · have hE : s.fnd.map encI ++ [D.tup [.int (i : Nat), .str "early"]] = (fE i s r).map encI := by unfold fE; rw [if_pos he, List.map_append]; rfl
            push_cast [zero, two, g2, g1, wb, he, hsz1]
            rw [hE]
            push_cast [g1, p1, wb, hsz2, zero, two, one, hq, hix, hne, hsz4]
            rw [hst, hS]
            exact ⟨k1', k2, _, _, _, _, _, _, by rw [List.map_append]; rfl, K1', K2, by omega, by omega, .inr ⟨_, rfl⟩, .inr ⟨_, rfl⟩, sub0⟩
          · have hE : s.fnd = fE i s r := by unfold fE; rw [if_neg he]
            push_cast [zero, two, g2, g1, wb, he]
            rw [hE]
            push_cast [g1, p1, wb, hsz2, zero, two, one, hq, hix, hne, hsz4]
            rw [hst, hS]
            exact ⟨k1', k2, _, _, _, _, _, _, by rw [List.map_append]; rfl, K1', K2, by omega, by omega, .inr ⟨_, rfl⟩, .inr ⟨_, rfl⟩, sub0⟩
  · rintro env ⟨k1, k2, c4, c5, c6, c7, c8, c9, rfl, K1, K2, l1, l2, f4, f8, hin⟩
    push_cast [keys_D]
    have FO := FOk.run rs.zipIdx fun p hp => h _ (List.fst_mem_of_mem_zipIdx hp)
    rw [List.length_zipIdx] at FO
    refine fin_exists (Pr := Pr) D.int (fun pre post env => ∃ c6, env = [.frz (.lst (rs.map encW)), .own (.dK (encD D.int k1 (fRun rs.zipIdx).last)), .frz (.dK (encD encI2 k2 (fRun rs.zipIdx).stk)), .own (.lst (((fRun rs.zipIdx).fnd ++ pre.flatMap (late1 (fRun rs.zipIdx))).map encI)), c4, c5, c6, c7, c8, c9]) k2 _ ⟨_, by rw [List.flatMap_nil, List.append_nil]⟩ ?_ ?_
    · rintro pre x post env e ⟨c6, rfl⟩
      refine ⟨_, rfl, ?_⟩
      have hx := ix_Dk (e := encI2) (g := (fRun rs.zipIdx).stk) (show x ∈ k2 by rw [e]; simp)
      rw [show encI2 ((fRun rs.zipIdx).stk x) = D.lst (((fRun rs.zipIdx).stk x).map encI) from rfl] at hx
      have hfa : freeAt [.frz (.lst (rs.map encW)), .own (.dK (encD D.int k1 (fRun rs.zipIdx).last)), .frz (.dK (encD encI2 k2 (fRun rs.zipIdx).stk)), .own (.lst (((fRun rs.zipIdx).fnd ++ pre.flatMap (late1 (fRun rs.zipIdx))).map encI)), c4, c5, .frz (.int x), c7, c8, c9] [4, 8] = true := by
        rcases f4 with rfl | ⟨d4, rfl⟩ <;> rcases f8 with rfl | ⟨d8, rfl⟩ <;> rfl
      have hpl : pre.length ≤ 200 := by
        have := congrArg List.length e
        rw [List.length_append] at this
        rw [List.length_zipIdx] at l2
        omega
      have hfl := FO.fl
      have hsl := FO.sl x
      have hll : (pre.flatMap (late1 (fRun rs.zipIdx))).length ≤ 200 * pre.length := len_flat fun y _ => by unfold late1; rw [List.length_map]; have := FO.sl y; omega
      push_cast [hx]
      rw [lcL_gen encI (fun _ => true) (fun p => .tup [.int p.1, .str "late"]) _ ((fRun rs.zipIdx).stk x) hfa (fun p hp => ⟨rfl, by rfl, fun _ => by push_cast [two], rfl⟩) (by omega), List.filter_eq_self.mpr (fun _ _ => rfl)]
      push_cast [List.length_map, List.length_append, sz_ok (show (fRun rs.zipIdx).fnd.length + (pre.flatMap (late1 (fRun rs.zipIdx))).length + ((fRun rs.zipIdx).stk x).length ≤ 16777216 by omega)]
      have e9 : ((fRun rs.zipIdx).fnd ++ pre.flatMap (late1 (fRun rs.zipIdx))).map encI ++ ((fRun rs.zipIdx).stk x).map (fun p => D.tup [.int p.1, .str "late"]) = ((fRun rs.zipIdx).fnd ++ (pre ++ [x]).flatMap (late1 (fRun rs.zipIdx))).map encI := by
        rw [List.flatMap_append, ← List.append_assoc, List.map_append (l₁ := (fRun rs.zipIdx).fnd ++ pre.flatMap (late1 (fRun rs.zipIdx)))]
        congr 1
        rw [List.flatMap_cons, List.flatMap_nil, List.append_nil]
        unfold late1
        rw [List.map_map]
        rfl
      rw [e9]
      exact ⟨_, rfl⟩
    · rintro env ⟨c6, rfl⟩
      push_cast [e_sortedW]
      rw [hPr]
      exact ⟨k2, K2, hin, rfl⟩

/-! ### mended rows, by a plain walk -/
def lix (k : List Str) (n : Str) : List Nat := (k.zipIdx.filter fun p => decide (p.1 = n)).map (·.2)
def encS1 (k : List Str) : D := .lst (k.map D.str)
def ptI : Option Nat → D
  | none => .non
  | some p => .int (p : Nat)
theorem zip_S (k : List Str) : ((k.map D.str).zipIdx.map fun p => D.tup [.int (p.2 : Nat), p.1]) = k.zipIdx.map fun p : Str × Nat => D.tup [.int (p.2 : Nat), .str p.1] := by
  rw [List.zipIdx_map, List.map_map]
  rfl
theorem lix_len (k : List Str) (n : Str) : (lix k n).length ≤ k.length := by
  unfold lix
  rw [List.length_map]
  exact Nat.le_trans (List.length_filter_le ..) (by rw [List.length_zipIdx]; omega)
theorem m_inner {k : List Str} (hl : k.length ≤ 200) (n : Str) : sem_inner_place [.lst (k.map D.str), .str n] = .ret (.f (ptI (lix k n).getLast?)) := by
  unfold sem_inner_place g_inner_place
  push_cast [zip_S]
  rw [lcL_gen (fun p : Str × Nat => D.tup [.int (p.2 : Nat), .str p.1]) (fun p => decide (p.1 = n)) (fun p => .int (p.2 : Nat)) _ k.zipIdx rfl (fun p hp => ⟨rfl, by push_cast [], fun _ => rfl, rfl⟩) (by rw [List.length_zipIdx]; omega)]
  have h1 : (k.zipIdx.filter fun p => decide (p.1 = n)).map (fun p => D.int (p.2 : Nat)) = (lix k n).map fun j : Nat => D.int (j : Nat) := by unfold lix; rw [List.map_map]; rfl
  rw [h1]
  have lay : Lay 60 (.lst ((lix k n).map fun j : Nat => D.int (j : Nat))) := lay_list (n := 0) (by decide) fun _ _ => lay_int _ _
  have hq := sNe_nilL lay
  rcases List.eq_nil_or_concat (lix k n) with h0 | ⟨l, p, h0⟩
  · rw [h0] at hq ⊢
    rw [List.map_nil, List.isEmpty_nil] at hq
    push_cast [show (0 : Nat) ≤ lineN from Nat.zero_le _, List.map_nil, hq]
    rfl
  · rw [List.concat_eq_append] at h0
    have e1 : (lix k n).map (fun j : Nat => D.int (j : Nat)) = l.map (fun j : Nat => D.int (j : Nat)) ++ [.int (p : Nat)] := by rw [h0, List.map_append]; rfl
    have he1 : ((lix k n).map fun j : Nat => D.int (j : Nat)).isEmpty = false := by rw [e1]; simp
    rw [he1] at hq
    have hix : sIx (.lst ((lix k n).map fun j : Nat => D.int (j : Nat))) (.int (-1)) = some (.f (.int (p : Nat))) := by rw [e1]; exact ix_lastL _ _
    push_cast [show (0 : Nat) ≤ lineN from Nat.zero_le _, hq, hix]
    rw [h0, List.getLast?_append]
    rfl
structure MSt where
  last : Int → Int
  stk : Int → List Str
  fnd : List Rw
def mStep (s : MSt) (r : Rw) : MSt :=
  let t := max r.t (s.last r.h)
  let l := upd s.last r.h t
  if r.b = true then ⟨l, upd s.stk r.h (s.stk r.h ++ [r.n]), s.fnd ++ [⟨t, r.h, true, r.n⟩]⟩
  else match (lix (s.stk r.h) r.n).getLast? with
    | none => ⟨l, s.stk, s.fnd⟩
    | some p => ⟨l, upd s.stk r.h ((s.stk r.h).take p), s.fnd ++ ((s.stk r.h).drop p).reverse.map fun n => ⟨t, r.h, false, n⟩⟩
def mRun (rs : List Rw) : MSt := rs.foldl mStep ⟨fun _ => 0, fun _ => [], []⟩
theorem mRun_snoc (rs : List Rw) (r : Rw) : mRun (rs ++ [r]) = mStep (mRun rs) r := by unfold mRun; rw [List.foldl_append]; rfl
structure MOk (n : Nat) (s : MSt) : Prop where
  fl : s.fnd.length ≤ 201 * n
  sl : ∀ h, (s.stk h).length ≤ n
theorem MOk.step {n : Nat} {s : MSt} (k : MOk n s) (hn : n ≤ 200) (r : Rw) : MOk (n + 1) (mStep s r) := by
  have hk := k.sl r.h
  have hf := k.fl
  have key : ∀ v : List Str, v.length ≤ n + 1 → ∀ h, ((upd s.stk r.h v) h).length ≤ n + 1 := by
    intro v h1 h
    unfold upd
    split
    · exact h1
    · have := k.sl h; omega
  unfold mStep
  dsimp only
  split
  · refine ⟨?_, key _ ?_⟩
    · show (s.fnd ++ _).length ≤ _; rw [List.length_append, List.length_singleton]; omega
    · rw [List.length_append, List.length_singleton]; omega
  · split
    · exact ⟨by show s.fnd.length ≤ _; omega, fun h => by have := k.sl h; show (s.stk h).length ≤ _; omega⟩
    · refine ⟨?_, key _ ?_⟩
      · show (s.fnd ++ _).length ≤ _; rw [List.length_append, List.length_map, List.length_reverse, List.length_drop]; omega
      · rw [List.length_take]; omega
theorem MOk.fold : ∀ (rs : List Rw) {n : Nat} {s : MSt}, MOk n s → n + rs.length ≤ 201 → MOk (n + rs.length) (rs.foldl mStep s)
  | [], _, _, k, _ => k
  | r :: rs, n, s, k, h => by
    rw [List.length_cons] at h
    have := MOk.fold rs (k.step (by omega) r) (by omega)
    rw [List.length_cons, List.foldl_cons, show n + (rs.length + 1) = n + 1 + rs.length by omega]
    exact this
theorem MOk.run {rs : List Rw} (h : rs.length ≤ 201) : MOk rs.length (mRun rs) := by
  have := MOk.fold rs (n := 0) (s := ⟨fun _ => 0, fun _ => [], []⟩) ⟨by simp, fun _ => by simp⟩ (by omega)
  rw [Nat.zero_add] at this
  exact this
theorem cut_from {xs : List D} {k : Nat} : cutD xs (some (k : Int)) none = xs.drop k := by
  unfold cutD
  have e0 : HT.sIx xs.length xs.length none = xs.length := HT.sIx_none _ _
  have e : HT.sIx xs.length 0 (some (k : Int)) = min k xs.length := by
    show (if (k : Int) < 0 then ((k : Int) + (xs.length : Int)).toNat else min (k : Int).toNat xs.length) = _
    rw [if_neg (by omega)]
    rfl
  rw [e0, e]
  rcases Nat.le_total k xs.length with h | h
  · rw [Nat.min_eq_left h, List.take_of_length_le (by rw [List.length_drop]; omega)]
  · rw [Nat.min_eq_right h, List.drop_length, List.drop_of_length_le h, List.take_nil]
def tail1 (s : MSt) (h : Int) : List Rw := (s.stk h).reverse.map fun n => ⟨s.last h, h, false, n⟩
theorem sort_Dk {α : Type} (e : α → D) (ks : List Int) (g : Int → α) : sSorted (.dK (encD e ks g)) = some (.t (.lst ((ordI ks).map D.int))) := by
  show srtItems ((encD e ks g).map fun e => kD e.1) = _
  rw [keys_D, e_srtI]
theorem m_mendedX {rs : List Rw} (hl : rs.length ≤ 200) : ∃ k2, Dk [] k2 (mRun rs).stk ∧ (∀ x ∈ k2, x ∈ rs.map (·.h)) ∧ sem_mended_of [.lst (rs.map encW)] = .ret (.t (.lst (((mRun rs).fnd ++ (ordI k2).flatMap (tail1 (mRun rs))).map encW))) := by
  obtain ⟨Pr, hPr⟩ : ∃ Pr : OR → Prop, Pr = fun o => ∃ k2, Dk [] k2 (mRun rs).stk ∧ (∀ x ∈ k2, x ∈ rs.map (·.h)) ∧ o = .ret (.t (.lst (((mRun rs).fnd ++ (ordI k2).flatMap (tail1 (mRun rs))).map encW))) := ⟨_, rfl⟩
  suffices hh : Pr (sem_mended_of [.lst (rs.map encW)]) by rw [hPr] at hh; exact hh
  have zero : (0 : Nat) ≤ lineN := Nat.zero_le _
  have one : (1 : Nat) ≤ lineN := by decide
  have four : (4 : Nat) ≤ lineN := by decide
  unfold sem_mended_of g_mended_of
  push_cast [zero]
  refine fin_exists (Pr := Pr) encW (fun pre post env => ∃ k1 k2 c4 c5 c6 c7 c8 c9, env = [.frz (.lst (rs.map encW)), .own (.dK (encD D.int k1 (mRun pre).last)), .own (.dK (encD encS1 k2 (mRun pre).stk)), .own (.lst ((mRun pre).fnd.map encW)), c4, c5, c6, c7, c8, c9, .un] ∧ Dk 0 k1 (mRun pre).last ∧ Dk [] k2 (mRun pre).stk ∧ k1.length ≤ pre.length ∧ k2.length ≤ pre.length ∧ FrC c7 ∧ ∀ x ∈ k2, x ∈ k1 ∧ x ∈ pre.map (·.h)) rs _ ⟨[], [], _, _, _, _, _, _, rfl, .nil 0, .nil [], Nat.le_refl _, Nat.le_refl _, .inl rfl, by simp⟩ ?_ ?_
  · rintro pre r post env e ⟨k1, k2, c4, c5, c6, c7, c8, c9, rfl, K1, K2, l1, l2, f7, hin⟩
    refine ⟨_, rfl, ?_⟩
    have hpl : pre.length < 200 := by
      have := congrArg List.length e
      rw [List.length_append, List.length_cons] at this
      omega
    have F := MOk.run (rs := pre) (by omega)
    have hst : mRun (pre ++ [r]) = mStep (mRun pre) r := mRun_snoc pre r
    have hlp : (pre ++ [r]).length = pre.length + 1 := by simp
    generalize hs : mRun pre = s at *
    obtain ⟨k1', p1, K1', m1, w1⟩ := put_D D.int K1 r.h (max r.t (s.last r.h))
    have g1 : (look (encD D.int k1 s.last) (.inl r.h)).getD (.int 0) = .int (s.last r.h) := get_D (e := D.int) K1 r.h
    have g2 : (look (encD encS1 k2 s.stk) (.inl r.h)).getD (.lst []) = .lst ((s.stk r.h).map D.str) := get_D (e := encS1) K2 r.h
    have sub0 : ∀ x ∈ k2, x ∈ k1' ∧ x ∈ (pre ++ [r]).map (·.h) := fun x hx => ⟨(w1 x).mpr (.inr (hin x hx).1), by rw [List.map_append]; exact List.mem_append_left _ (hin x hx).2⟩
    have subN : ∀ {ks : List Int}, (∀ x, x ∈ ks ↔ x = r.h ∨ x ∈ k2) → ∀ x ∈ ks, x ∈ k1' ∧ x ∈ (pre ++ [r]).map (·.h) := fun hk x hx => by
      rcases (hk x).mp hx with rfl | z
      · exact ⟨(w1 _).mpr (.inl rfl), by rw [List.map_append]; exact List.mem_append_right _ (by simp)⟩
      · exact sub0 x z
    have wb := wrd_eq r.b
    have hw : encW r = .tup [.int r.t, .int r.h, .str (wrd r.b), .str r.n] := rfl
    have hsl := F.sl r.h
    have hfl := F.fl
    have hsz1 := sz_ok (show (s.fnd.map encW).length + 1 ≤ 16777216 by rw [List.length_map]; omega)
    have hsz2 := sz_ok (show (encD D.int k1 s.last).length + 1 ≤ 16777216 by unfold encD; rw [List.length_map]; omega)
    have hsz3 := sz_ok (show (encD encS1 k2 s.stk).length + 1 ≤ 16777216 by unfold encD; rw [List.length_map]; omega)
    have hin := m_inner (k := s.stk r.h) (by omega) r.n
    cases hb : r.b with
    | true =>
      rw [hb] at wb hw
      obtain ⟨k2', p2, K2', m2, w2⟩ := put_D encS1 K2 r.h (s.stk r.h ++ [r.n])
      have hS : mStep s r = ⟨upd s.last r.h (max r.t (s.last r.h)), upd s.stk r.h (s.stk r.h ++ [r.n]), s.fnd ++ [⟨max r.t (s.last r.h), r.h, true, r.n⟩]⟩ := by unfold mStep; simp [hb]
      rw [show encS1 (s.stk r.h ++ [r.n]) = D.lst ((s.stk r.h).map D.str ++ [.str r.n]) by unfold encS1; rw [List.map_append]; rfl] at p2
      have hcat := e_cat (xs := (s.stk r.h).map D.str) (ys := [.str r.n]) (by rw [List.length_map, List.length_singleton]; omega)
      generalize hW : wrd true = W at wb hw
      push_cast [hw, g1, zero, one, four, p1, hsz2, g2, wb, hsz1, hcat, hsz3, p2]
      have hE : s.fnd.map encW ++ [D.tup [.int (max r.t (s.last r.h)), .int r.h, .str W, .str r.n]] = (s.fnd ++ [(⟨max r.t (s.last r.h), r.h, true, r.n⟩ : Rw)]).map encW := by rw [List.map_append, ← hW]; rfl
      rw [hst, hS, hlp, hE]
      exact ⟨k1', k2', _, _, _, _, _, _, rfl, K1', K2', by omega, by omega, .inr ⟨_, rfl⟩, subN w2⟩
    | false =>
      rw [hb] at wb hw
      generalize hW : wrd false = W at wb hw
      cases hp : (lix (s.stk r.h) r.n).getLast? with
      | none =>
        rw [hp] at hin
        have hin : sem_inner_place [.lst ((s.stk r.h).map D.str), .str r.n] = .ret (.f .non) := hin
        have hS : mStep s r = ⟨upd s.last r.h (max r.t (s.last r.h)), s.stk, s.fnd⟩ := by unfold mStep; simp [hb, hp]
        push_cast [hw, g1, zero, one, four, p1, hsz2, g2, wb, hin]
        rw [hst, hS, hlp]
        exact ⟨k1', k2, _, _, _, _, _, _, rfl, K1', K2, by omega, by omega, .inr ⟨_, rfl⟩, sub0⟩
      | some p =>
        rw [hp] at hin
        have hin : sem_inner_place [.lst ((s.stk r.h).map D.str), .str r.n] = .ret (.f (.int (p : Nat))) := hin
        have hS : mStep s r = ⟨upd s.last r.h (max r.t (s.last r.h)), upd s.stk r.h ((s.stk r.h).take p), s.fnd ++ ((s.stk r.h).drop p).reverse.map fun n => ⟨max r.t (s.last r.h), r.h, false, n⟩⟩ := by unfold mStep; simp [hb, hp]
        obtain ⟨k2', p2, K2', m2, w2⟩ := put_D encS1 K2 r.h ((s.stk r.h).take p)
        rw [show encS1 ((s.stk r.h).take p) = D.lst (((s.stk r.h).map D.str).take p) by unfold encS1; rw [List.map_take]] at p2
        have hno : sIsNot (.int (p : Nat)) .non = some (.f (.bl true)) := rfl
        push_cast [hw, g1, zero, one, four, p1, hsz2, g2, wb, hin, hno, cut_from, cut_to]
        rw [show (List.drop p ((s.stk r.h).map D.str)).reverse = ((s.stk r.h).drop p).reverse.map D.str by rw [← List.map_drop, List.map_reverse]]
        rw [lcL_one D.str (fun n => D.tup [.int (max r.t (s.last r.h)), .int r.h, .str "end", .str n]) ((s.stk r.h).drop p).reverse rfl rfl (fun y hy => by push_cast [four]) (by rw [List.length_reverse, List.length_drop]; omega)]
        have hsz5 := sz_ok (show (s.fnd.map encW).length + (((s.stk r.h).drop p).reverse.map fun n => D.tup [.int (max r.t (s.last r.h)), .int r.h, .str "end", .str n]).length ≤ 16777216 by rw [List.length_map, List.length_map, List.length_reverse, List.length_drop]; omega)
        push_cast [hsz5, cut_to, hsz3, p2]
        have hE : s.fnd.map encW ++ (((s.stk r.h).drop p).reverse.map fun n => D.tup [.int (max r.t (s.last r.h)), .int r.h, .str "end", .str n]) = (s.fnd ++ ((s.stk r.h).drop p).reverse.map fun n => (⟨max r.t (s.last r.h), r.h, false, n⟩ : Rw)).map encW := by rw [List.map_append, List.map_map]; rfl
        rw [hst, hS, hlp, hE]
        exact ⟨k1', k2', _, _, _, _, _, _, rfl, K1', K2', by omega, by omega, .inr ⟨_, rfl⟩, subN w2⟩
  · rintro env ⟨k1, k2, c4, c5, c6, c7, c8, c9, rfl, K1, K2, l1, l2, f7, hin⟩
    push_cast [sort_Dk]
    have MO := MOk.run (rs := rs) (by omega)
    refine fin_exists (Pr := Pr) D.int (fun pre post env => ∃ c5, env = [.frz (.lst (rs.map encW)), .own (.dK (encD D.int k1 (mRun rs).last)), .own (.dK (encD encS1 k2 (mRun rs).stk)), .own (.lst (((mRun rs).fnd ++ pre.flatMap (tail1 (mRun rs))).map encW)), c4, c5, c6, c7, c8, c9, .un]) (ordI k2) _ ⟨_, by rw [List.flatMap_nil, List.append_nil]⟩ ?_ ?_
    · rintro pre x post env e ⟨c5, rfl⟩
      refine ⟨_, rfl, ?_⟩
      have hm : x ∈ k2 := (List.mergeSort_perm _ _).mem_iff.mp (show x ∈ ordI k2 by rw [e]; simp)
      have hx := ix_Dk (e := encS1) (g := (mRun rs).stk) hm
      have hy := ix_Dk (e := D.int) (g := (mRun rs).last) (hin x hm).1
      rw [show encS1 ((mRun rs).stk x) = D.lst (((mRun rs).stk x).map D.str) from rfl] at hx
      have hfa : freeAt [.frz (.lst (rs.map encW)), .own (.dK (encD D.int k1 (mRun rs).last)), .own (.dK (encD encS1 k2 (mRun rs).stk)), .own (.lst (((mRun rs).fnd ++ pre.flatMap (tail1 (mRun rs))).map encW)), c4, .frz (.int x), c6, c7, c8, c9, .un] [7] = true := by
        rcases f7 with rfl | ⟨d7, rfl⟩ <;> rfl
      have hpl : pre.length ≤ 200 := by
        have := congrArg List.length e
        rw [List.length_append, (ordI_perm k2).length_eq] at this
        omega
      have hfl := MO.fl
      have hsl := MO.sl x
      have hll : (pre.flatMap (tail1 (mRun rs))).length ≤ 200 * pre.length := len_flat fun y _ => by unfold tail1; rw [List.length_map, List.length_reverse]; have := MO.sl y; omega
      push_cast [hx]
      rw [← List.map_reverse, lcL_gen D.str (fun _ => true) (fun n => .tup [.int ((mRun rs).last x), .int x, .str "end", .str n]) _ ((mRun rs).stk x).reverse hfa (fun p hp => ⟨rfl, by rfl, fun _ => by push_cast [four, hy], rfl⟩) (by rw [List.length_reverse]; omega), List.filter_eq_self.mpr (fun _ _ => rfl)]
      push_cast [List.length_map, List.length_append, List.length_reverse, sz_ok (show (mRun rs).fnd.length + (pre.flatMap (tail1 (mRun rs))).length + ((mRun rs).stk x).length ≤ 16777216 by omega)]
      have e9 : ((mRun rs).fnd ++ pre.flatMap (tail1 (mRun rs))).map encW ++ ((mRun rs).stk x).reverse.map (fun n => D.tup [.int ((mRun rs).last x), .int x, .str "end", .str n]) = ((mRun rs).fnd ++ (pre ++ [x]).flatMap (tail1 (mRun rs))).map encW := by
        rw [List.flatMap_append, ← List.append_assoc, List.map_append (l₁ := (mRun rs).fnd ++ pre.flatMap (tail1 (mRun rs)))]
        congr 1
        rw [List.flatMap_cons, List.flatMap_nil, List.append_nil]
        unfold tail1
        rw [List.map_map]
        rfl
      rw [e9]
      exact ⟨_, rfl⟩
    · rintro env ⟨c5, rfl⟩
      push_cast []
      rw [hPr]
      exact ⟨k2, K2, fun x hx => (hin x hx).2, rfl⟩

/-! ### plain facts of faults and mended rows -/
def fw (s : FSt) (L : List (Rw × Nat)) : FSt := L.foldl (fun s p => fStep p.2 s p.1) s
def mw (s : MSt) (L : List Rw) : MSt := L.foldl mStep s
def f0 : FSt := ⟨fun _ => 0, fun _ => [], []⟩
def m0 : MSt := ⟨fun _ => 0, fun _ => [], []⟩
theorem upd_at {α : Type} (g : Int → α) (h : Int) (v : α) : upd g h v h = v := if_pos rfl
theorem upd_ne {α : Type} (g : Int → α) {h x : Int} (v : α) (n : x ≠ h) : upd g h v x = g x := if_neg n
theorem updA_same {α : Type} (g : Int → α) (h : Int) (v w : α) : upd (upd g h v) h w = upd g h w := by
  funext x
  unfold upd
  split <;> rfl
theorem updA_id {α : Type} (g : Int → α) (h : Int) : upd g h (g h) = g := by
  funext x
  unfold upd
  split
  · rename_i e; rw [e]
  · rfl
/-- what a row adds to the faults -/
def fAdd (i last : Int) (stk : List (Int × Str)) (r : Rw) : List (Int × Str) :=
  (if r.t < last then [(i, ("early" : Str))] else []) ++ (if r.b = true then [] else match stk.getLast? with
    | none => [(i, ("lone" : Str))]
    | some x => if x.2 = r.n then [] else [(i, ("other" : Str))])
def fStk (i : Int) (stk : List (Int × Str)) (r : Rw) : List (Int × Str) :=
  if r.b = true then stk ++ [(i, r.n)] else match stk.getLast? with
    | none => stk
    | some x => if x.2 = r.n then stk.dropLast else stk
theorem fStep_eq (i : Int) (s : FSt) (r : Rw) : fStep i s r = ⟨upd s.last r.h (max r.t (s.last r.h)), upd s.stk r.h (fStk i (s.stk r.h) r), s.fnd ++ fAdd i (s.last r.h) (s.stk r.h) r⟩ := by
  have hE : fE i s r = s.fnd ++ (if r.t < s.last r.h then [(i, ("early" : Str))] else []) := by
    unfold fE
    split
    · rfl
    · rw [List.append_nil]
  unfold fStep fAdd fStk
  dsimp only
  rw [hE]
  cases r.b with
  | true => simp
  | false =>
    cases q : (s.stk r.h).getLast? with
    | none => simp [updA_id]
    | some x =>
      by_cases z : x.2 = r.n
      · simp [z]
      · simp [z, updA_id]
/-- what a row adds to the mended rows -/
def mAdd (last : Int) (stk : List Str) (r : Rw) : List Rw :=
  if r.b = true then [⟨max r.t last, r.h, true, r.n⟩] else match (lix stk r.n).getLast? with
    | none => []
    | some p => (stk.drop p).reverse.map fun n => ⟨max r.t last, r.h, false, n⟩
def mStk (stk : List Str) (r : Rw) : List Str :=
  if r.b = true then stk ++ [r.n] else match (lix stk r.n).getLast? with
    | none => stk
    | some p => stk.take p
theorem mStep_eq (s : MSt) (r : Rw) : mStep s r = ⟨upd s.last r.h (max r.t (s.last r.h)), upd s.stk r.h (mStk (s.stk r.h) r), s.fnd ++ mAdd (s.last r.h) (s.stk r.h) r⟩ := by
  unfold mStep mAdd mStk
  dsimp only
  cases r.b with
  | true => simp
  | false =>
    cases q : (lix (s.stk r.h) r.n).getLast? with
    | none => simp [updA_id]
    | some p => simp
/-! rows of one hand -/
def hf (h : Int) (L : List Rw) : List Rw := L.filter fun r => decide (r.h = h)
def hfI (h : Int) (L : List (Rw × Nat)) : List (Rw × Nat) := L.filter fun r => decide (r.1.h = h)
theorem mAdd_h (last : Int) (stk : List Str) (r : Rw) : ∀ x ∈ mAdd last stk r, x.h = r.h := by
  intro x hx
  unfold mAdd at hx
  split at hx
  · rw [List.mem_singleton] at hx; rw [hx]
  · split at hx
    · cases hx
    · obtain ⟨n, _, rfl⟩ := List.mem_map.mp hx
      rfl
theorem mw_hand (h : Int) : ∀ (L : List Rw) (s s' : MSt), s.last h = s'.last h → s.stk h = s'.stk h → hf h s.fnd = s'.fnd →
    (mw s L).last h = (mw s' (hf h L)).last h ∧ (mw s L).stk h = (mw s' (hf h L)).stk h ∧ hf h (mw s L).fnd = (mw s' (hf h L)).fnd
  | [], s, s', h1, h2, h3 => ⟨h1, h2, h3⟩
  | r :: L, s, s', h1, h2, h3 => by
    show (mw (mStep s r) L).last h = _ ∧ (mw (mStep s r) L).stk h = _ ∧ hf h (mw (mStep s r) L).fnd = _
    by_cases z : r.h = h
    · have e : hf h (r :: L) = r :: hf h L := by unfold hf; rw [List.filter_cons_of_pos (by simpa using z)]
      rw [e]
      refine mw_hand h L (mStep s r) (mStep s' r) ?_ ?_ ?_
      · subst z; rw [mStep_eq, mStep_eq]; dsimp only; rw [upd_at, upd_at, h1]
      · subst z; rw [mStep_eq, mStep_eq]; dsimp only; rw [upd_at, upd_at, h2]
      · subst z
        rw [mStep_eq, mStep_eq]
        dsimp only
        unfold hf at h3 ⊢
        rw [List.filter_append, h3, h1, h2, List.filter_eq_self.mpr]
        intro x hx
        simpa using mAdd_h _ _ _ x hx
    · have e : hf h (r :: L) = hf h L := by unfold hf; rw [List.filter_cons_of_neg (by simpa using z)]
      rw [e]
      refine mw_hand h L (mStep s r) s' ?_ ?_ ?_
      · rw [mStep_eq]; dsimp only; rw [upd_ne _ _ (fun w => z w.symm), h1]
      · rw [mStep_eq]; dsimp only; rw [upd_ne _ _ (fun w => z w.symm), h2]
      · rw [mStep_eq]
        dsimp only
        unfold hf at h3 ⊢
        rw [List.filter_append, h3, List.filter_eq_nil_iff.mpr, List.append_nil]
        intro x hx
        rw [mAdd_h _ _ _ x hx]
        simpa using z
theorem mw_far {h : Int} : ∀ (L : List Rw) (s : MSt), (∀ r ∈ L, r.h ≠ h) → (mw s L).stk h = s.stk h
  | [], _, _ => rfl
  | r :: L, s, k => by
    show (mw (mStep s r) L).stk h = _
    rw [mw_far L _ fun x hx => k x (by simp [hx]), mStep_eq]
    dsimp only
    rw [upd_ne _ _ fun w => k r (by simp) w.symm]
theorem fw_far {h : Int} : ∀ (L : List (Rw × Nat)) (s : FSt), (∀ r ∈ L, r.1.h ≠ h) → (fw s L).stk h = s.stk h
  | [], _, _ => rfl
  | r :: L, s, k => by
    show (fw (fStep r.2 s r.1) L).stk h = _
    rw [fw_far L _ fun x hx => k x (by simp [hx]), fStep_eq]
    dsimp only
    rw [upd_ne _ _ fun w => k r (by simp) w.symm]
/-! ### a walk that finds no fault -/
structure CSt where
  last : Int → Int
  stk : Int → List Str
def c0 : CSt := ⟨fun _ => 0, fun _ => []⟩
def cStep (s : CSt) (r : Rw) : Option CSt :=
  if r.t < s.last r.h then none else if r.b = true then some ⟨upd s.last r.h r.t, upd s.stk r.h (s.stk r.h ++ [r.n])⟩
  else match (s.stk r.h).getLast? with
    | none => none
    | some x => if x = r.n then some ⟨upd s.last r.h r.t, upd s.stk r.h (s.stk r.h).dropLast⟩ else none
def cRun (s : CSt) : List Rw → Option CSt
  | [] => some s
  | r :: rs => match cStep s r with
    | some s' => cRun s' rs
    | none => none
theorem cRun_app : ∀ {L M : List Rw} {s s' : CSt}, cRun s L = some s' → cRun s (L ++ M) = cRun s' M
  | [], _, _, _, h => by cases h; rfl
  | r :: L, M, s, s', h => by
    rw [List.cons_append]
    rw [cRun] at h ⊢
    cases q : cStep s r with
    | none => rw [q] at h; cases h
    | some s1 => rw [q] at h; exact cRun_app (L := L) h
def nms (k : Int → List (Int × Str)) : Int → List Str := fun h => (k h).map (·.2)
theorem nms_upd (k : Int → List (Int × Str)) (h : Int) (v : List (Int × Str)) : nms (upd k h v) = upd (nms k) h (v.map (·.2)) := by
  funext x
  unfold nms upd
  split <;> rfl
theorem gl_map (l : List (Int × Str)) : (l.map (·.2)).getLast? = l.getLast?.map (·.2) := by rw [List.getLast?_map]
/-- a step without a fault -/
theorem f_c {s : FSt} {c : CSt} (h1 : c.last = s.last) (h2 : c.stk = nms s.stk) (i : Int) (r : Rw) :
    (fAdd i (s.last r.h) (s.stk r.h) r = [] ∧ cStep c r = some ⟨(fStep i s r).last, nms (fStep i s r).stk⟩) ∨ (fAdd i (s.last r.h) (s.stk r.h) r ≠ [] ∧ cStep c r = none) := by
  rw [fStep_eq]
  dsimp only
  rw [nms_upd]
  unfold cStep fAdd fStk
  rw [h1, h2, show nms s.stk r.h = (s.stk r.h).map (·.2) from rfl, gl_map]
  by_cases z : r.t < s.last r.h
  · exact .inr ⟨by rw [if_pos z]; simp, by rw [if_pos z]⟩
  · have e : max r.t (s.last r.h) = r.t := by omega
    rw [if_neg z, if_neg z, e, List.nil_append]
    cases hb : r.b with
    | true => exact .inl ⟨by simp, by simp⟩
    | false =>
      cases q : (s.stk r.h).getLast? with
      | none => exact .inr ⟨by simp, by simp⟩
      | some x =>
        by_cases w : x.2 = r.n
        · exact .inl ⟨by simp [w], by simp [w]⟩
        · exact .inr ⟨by simp [w], by simp [w]⟩
theorem fw_len : ∀ (L : List (Rw × Nat)) (s : FSt), s.fnd.length ≤ (fw s L).fnd.length
  | [], _ => Nat.le_refl _
  | r :: L, s => by
    refine Nat.le_trans ?_ (fw_len L (fStep r.2 s r.1))
    rw [fStep_eq]
    dsimp only
    rw [List.length_append]
    omega
theorem f_run : ∀ (L : List (Rw × Nat)) {s : FSt} {c : CSt}, c.last = s.last → c.stk = nms s.stk →
    ((fw s L).fnd = s.fnd ∧ cRun c (L.map (·.1)) = some ⟨(fw s L).last, nms (fw s L).stk⟩) ∨ (s.fnd.length < (fw s L).fnd.length ∧ cRun c (L.map (·.1)) = none)
  | [], s, ⟨_, _⟩, h1, h2 => .inl ⟨rfl, by cases h1; cases h2; rfl⟩
  | r :: L, s, c, h1, h2 => by
    rw [List.map_cons]
    unfold cRun
    rcases f_c h1 h2 r.2 r.1 with ⟨e1, e2⟩ | ⟨e1, e2⟩
    · rw [e2]
      have := f_run L (s := fStep r.2 s r.1) (c := ⟨(fStep r.2 s r.1).last, nms (fStep r.2 s r.1).stk⟩) rfl rfl
      have e3 : (fStep r.2 s r.1).fnd = s.fnd := by rw [fStep_eq]; dsimp only; rw [e1, List.append_nil]
      rw [e3] at this
      exact this
    · rw [e2]
      refine .inr ⟨?_, rfl⟩
      refine Nat.lt_of_lt_of_le ?_ (fw_len L (fStep r.2 s r.1))
      rw [fStep_eq]
      dsimp only
      rw [List.length_append]
      have := List.length_pos_iff.mpr e1
      omega
theorem lix_snoc (k : List Str) (n : Str) : (lix (k ++ [n]) n).getLast? = some k.length := by
  unfold lix
  rw [List.zipIdx_append, List.filter_append, List.map_append, List.getLast?_append]
  simp
theorem m_c {s : MSt} {c c' : CSt} {r : Rw} (h1 : c.last = s.last) (h2 : c.stk = s.stk) (h : cStep c r = some c') : mStep s r = ⟨c'.last, c'.stk, s.fnd ++ [r]⟩ := by
  obtain ⟨t, hh, b, n⟩ := r
  unfold cStep at h
  rw [h1, h2] at h
  dsimp only at h
  split at h
  · cases h
  · rename_i z
    have e : max t (s.last hh) = t := by omega
    rw [mStep_eq]
    unfold mAdd mStk
    dsimp only
    rw [e]
    cases b with
    | true => rw [if_pos rfl] at h; cases h; rw [if_pos rfl, if_pos rfl]
    | false =>
      rw [if_neg (by decide)] at h
      split at h
      · cases h
      · rename_i x q
        split at h
        · rename_i w
          cases h
          subst w
          obtain ⟨k, hk⟩ : ∃ k, s.stk hh = k ++ [x] := by
            rcases List.eq_nil_or_concat (s.stk hh) with z | ⟨l, y, z⟩
            · rw [z] at q; cases q
            · rw [List.concat_eq_append] at z
              rw [z, List.getLast?_append] at q
              have q : y = x := by simpa using q
              exact ⟨l, by rw [z, q]⟩
          rw [if_neg (by decide), if_neg (by decide), hk, lix_snoc]
          dsimp only
          rw [List.take_left, List.dropLast_concat]
          simp
        · cases h
theorem m_run : ∀ (L : List Rw) {s : MSt} {c c' : CSt}, c.last = s.last → c.stk = s.stk → cRun c L = some c' → mw s L = ⟨c'.last, c'.stk, s.fnd ++ L⟩
  | [], ⟨_, _, _⟩, ⟨_, _⟩, _, h1, h2, h => by
    cases h1; cases h2; cases h
    show MSt.mk _ _ _ = _
    rw [List.append_nil]
  | r :: L, s, c, c', h1, h2, h => by
    unfold cRun at h
    cases q : cStep c r with
    | none => rw [q] at h; cases h
    | some c1 =>
      rw [q] at h
      have e := m_c h1 h2 q
      show mw (mStep s r) L = _
      rw [m_run L (s := mStep s r) (c := c1) (by rw [e]) (by rw [e]) h, e]
      dsimp only
      rw [List.append_assoc]
      rfl
/-! ### mended rows have no faults -/
theorem c_ends (h t : Int) : ∀ (ns k : List Str) (c : CSt), c.stk h = k ++ ns → c.last h ≤ t → ∃ c', cRun c (ns.reverse.map fun n => (⟨t, h, false, n⟩ : Rw)) = some c' ∧ c'.stk = upd c.stk h k ∧ (∀ x, x ≠ h → c'.last x = c.last x) ∧ c'.last h ≤ t := by
  intro ns
  induction hn : ns.length generalizing ns with
  | zero =>
    intro k c hk hl
    have := List.eq_nil_of_length_eq_zero hn
    subst this
    rw [List.append_nil] at hk
    exact ⟨c, rfl, by rw [← hk, updA_id], fun _ _ => rfl, hl⟩
  | succ m ih =>
    intro k c hk hl
    rcases List.eq_nil_or_concat ns with z | ⟨l, x, z⟩
    · rw [z] at hn; cases hn
    · rw [List.concat_eq_append] at z
      subst z
      rw [List.length_append, List.length_singleton] at hn
      rw [List.reverse_append, List.map_append]
      have e1 : cStep c ⟨t, h, false, x⟩ = some ⟨upd c.last h t, upd c.stk h (k ++ l)⟩ := by
        unfold cStep
        dsimp only
        rw [if_neg (by omega), if_neg (by decide), hk, ← List.append_assoc, List.getLast?_append, List.dropLast_concat]
        simp
      obtain ⟨c', a1, a2, a3, a4⟩ := ih l (by omega) k ⟨upd c.last h t, upd c.stk h (k ++ l)⟩ (upd_at _ _ _) (by show upd c.last h t h ≤ t; rw [upd_at]; exact Int.le_refl _)
      refine ⟨c', ?_, by rw [a2]; exact updA_same _ _ _ _, fun y hy => by rw [a3 y hy]; exact upd_ne _ _ hy, a4⟩
      show cRun c (⟨t, h, false, x⟩ :: _) = _
      unfold cRun
      rw [e1]
      exact a1
theorem lix_lt {k : List Str} {n : Str} {p : Nat} (h : (lix k n).getLast? = some p) : k.take p ++ k.drop p = k := List.take_append_drop _ _
theorem m_clean : ∀ (L : List Rw) (s : MSt) (c : CSt), c.stk = s.stk → (∀ h, c.last h ≤ s.last h) → ∃ new c', (mw s L).fnd = s.fnd ++ new ∧ cRun c new = some c' ∧ c'.stk = (mw s L).stk ∧ (∀ h, c'.last h ≤ (mw s L).last h)
  | [], s, c, h1, h2 => ⟨[], c, by rw [List.append_nil]; rfl, rfl, h1, h2⟩
  | r :: L, s, c, h1, h2 => by
    have step : ∃ c1, cRun c (mAdd (s.last r.h) (s.stk r.h) r) = some c1 ∧ c1.stk = (mStep s r).stk ∧ ∀ h, c1.last h ≤ (mStep s r).last h := by
      rw [mStep_eq]
      dsimp only
      have hr := h2 r.h
      unfold mAdd mStk
      cases hb : r.b with
      | true =>
        rw [if_pos rfl, if_pos rfl]
        refine ⟨⟨upd c.last r.h (max r.t (s.last r.h)), upd c.stk r.h (c.stk r.h ++ [r.n])⟩, ?_, by rw [h1], fun h => ?_⟩
        · unfold cRun cStep
          dsimp only
          rw [if_neg (by omega), if_pos rfl]
          rfl
        · show upd c.last r.h _ h ≤ _
          unfold upd
          split
          · exact Int.le_refl _
          · exact h2 h
      | false =>
        rw [if_neg (by decide), if_neg (by decide)]
        cases q : (lix (s.stk r.h) r.n).getLast? with
        | none =>
          refine ⟨c, rfl, by rw [h1]; exact (updA_id _ _).symm, fun h => ?_⟩
          unfold upd
          split
          · rename_i e; rw [e]; omega
          · exact h2 h
        | some p =>
          obtain ⟨c', a1, a2, a3, a4⟩ := c_ends r.h (max r.t (s.last r.h)) ((s.stk r.h).drop p) ((s.stk r.h).take p) c (by rw [h1, List.take_append_drop]) (by omega)
          refine ⟨c', a1, by rw [a2, h1], fun h => ?_⟩
          unfold upd
          split
          · rename_i e; rw [e]; exact a4
          · rename_i e; rw [a3 h e]; exact h2 h
    obtain ⟨c1, b1, b2, b3⟩ := step
    obtain ⟨new, c', d1, d2, d3, d4⟩ := m_clean L (mStep s r) c1 b2 b3
    refine ⟨mAdd (s.last r.h) (s.stk r.h) r ++ new, c', ?_, (cRun_app b1).trans d2, d3, d4⟩
    show (mw (mStep s r) L).fnd = _
    rw [d1, mStep_eq]
    dsimp only
    rw [List.append_assoc]
theorem c_tails (s : MSt) : ∀ (ks : List Int) (c : CSt), ks.Nodup → (∀ h ∈ ks, c.stk h = s.stk h) → (∀ h ∈ ks, c.last h ≤ s.last h) → ∃ c', cRun c (ks.flatMap (tail1 s)) = some c' ∧ (∀ h, c'.stk h = if h ∈ ks then [] else c.stk h)
  | [], c, _, _, _ => ⟨c, rfl, fun h => by simp⟩
  | k :: ks, c, nd, h1, h2 => by
    obtain ⟨nk, nd⟩ := List.nodup_cons.mp nd
    obtain ⟨c1, a1, a2, a3, a4⟩ := c_ends k (s.last k) (s.stk k) [] c (by rw [h1 k (by simp)]; rfl) (h2 k (by simp))
    have ne : ∀ h ∈ ks, h ≠ k := fun h hh e => nk (e ▸ hh)
    obtain ⟨c', b1, b2⟩ := c_tails s ks c1 nd (fun h hh => by rw [a2, upd_ne _ _ (ne h hh)]; exact h1 h (by simp [hh])) (fun h hh => by rw [a3 h (ne h hh)]; exact h2 h (by simp [hh]))
    refine ⟨c', by rw [List.flatMap_cons]; exact (cRun_app a1).trans b1, fun h => ?_⟩
    rw [b2 h, a2]
    by_cases e : h = k
    · subst e; rw [if_neg nk, upd_at, if_pos (by simp)]
    · rw [upd_ne _ _ e]
      by_cases m : h ∈ ks
      · rw [if_pos m, if_pos (by simp [m])]
      · rw [if_neg m, if_neg (by simp [e, m])]
def h4 : List Int := [1, 2, 3, 4]
def mendL (rs : List Rw) : List Rw := (mRun rs).fnd ++ h4.flatMap (tail1 (mRun rs))
def allF (L : List (Rw × Nat)) : List (Int × Str) := (fRun L).fnd ++ h4.flatMap (late1 (fRun L))
def ftL (rs : List Rw) : List (Int × Str) := ordW (allF rs.zipIdx)
def Clean (rs : List Rw) : Prop := ∃ c, cRun c0 rs = some c ∧ ∀ h, c.stk h = []
def In4 (rs : List Rw) : Prop := ∀ r ∈ rs, r.h ∈ h4
theorem h4_nd : h4.Nodup := by decide
theorem stk_out {rs : List Rw} (k : In4 rs) {h : Int} (n : h ∉ h4) : (mRun rs).stk h = [] := (mw_far (h := h) rs m0 fun r hr e => n (e ▸ k r hr)).trans rfl
theorem stkF_out {L : List (Rw × Nat)} (k : In4 (L.map (·.1))) {h : Int} (n : h ∉ h4) : (fRun L).stk h = [] := (fw_far (h := h) L f0 fun r hr e => n (e ▸ k r.1 (List.mem_map.mpr ⟨r, hr, rfl⟩))).trans rfl
theorem mend_clean {rs : List Rw} (k : In4 rs) : Clean (mendL rs) := by
  obtain ⟨new, c, e1, e2, e3, e4⟩ := m_clean rs m0 c0 rfl (fun _ => Int.le_refl _)
  have e1 : (mRun rs).fnd = new := e1
  have e3 : c.stk = (mRun rs).stk := e3
  have e4 : ∀ h, c.last h ≤ (mRun rs).last h := e4
  obtain ⟨c', b1, b2⟩ := c_tails (mRun rs) h4 c h4_nd (fun h _ => by rw [e3]) (fun h _ => e4 h)
  refine ⟨c', ?_, fun h => ?_⟩
  · unfold mendL
    rw [e1]
    exact (cRun_app e2).trans b1
  · rw [b2]
    by_cases m : h ∈ h4
    · rw [if_pos m]
    · rw [if_neg m, e3, stk_out k m]
theorem clean_mend {rs : List Rw} (k : Clean rs) : mendL rs = rs := by
  obtain ⟨c, e1, e2⟩ := k
  have := m_run rs (s := m0) (c := c0) rfl rfl e1
  have : mRun rs = ⟨c.last, c.stk, rs⟩ := this
  unfold mendL
  rw [this]
  dsimp only
  rw [List.flatMap_eq_nil_iff.mpr, List.append_nil]
  intro h _
  unfold tail1
  dsimp only
  rw [e2 h]
  rfl
theorem ordW_nil {l : List (Int × Str)} : ordW l = [] ↔ l = [] := by
  constructor
  · intro h
    have := (ordW_perm l).length_eq
    rw [h] at this
    exact List.eq_nil_of_length_eq_zero this.symm
  · intro h; rw [h]; unfold ordW; simp
theorem clean_iff {rs : List Rw} (k : In4 rs) : ftL rs = [] ↔ Clean rs := by
  unfold ftL
  rw [ordW_nil]
  unfold allF
  have hz : rs.zipIdx.map (·.1) = rs := List.zipIdx_map_fst ..
  have key := f_run rs.zipIdx (s := f0) (c := c0) rfl rfl
  rw [hz] at key
  constructor
  · intro h
    obtain ⟨a, b⟩ := List.append_eq_nil_iff.mp h
    rcases key with ⟨_, e⟩ | ⟨e, _⟩
    · refine ⟨_, e, fun x => ?_⟩
      show ((fw f0 rs.zipIdx).stk x).map (·.2) = []
      by_cases m : x ∈ h4
      · have := List.flatMap_eq_nil_iff.mp b x m
        unfold late1 at this
        rw [List.map_eq_nil_iff] at this
        rw [show fw f0 rs.zipIdx = fRun rs.zipIdx from rfl, this]
        rfl
      · rw [show fw f0 rs.zipIdx = fRun rs.zipIdx from rfl, stkF_out (by rw [hz]; exact k) m]
        rfl
    · rw [show fw f0 rs.zipIdx = fRun rs.zipIdx from rfl, a] at e
      cases e
  · rintro ⟨c, e1, e2⟩
    rcases key with ⟨a, e⟩ | ⟨_, e⟩
    · rw [e1] at e
      cases e
      rw [show (fRun rs.zipIdx).fnd = [] from a, List.nil_append]
      refine List.flatMap_eq_nil_iff.mpr fun x _ => ?_
      unfold late1
      have := e2 x
      rw [List.map_eq_nil_iff]
      exact List.map_eq_nil_iff.mp this
    · rw [e1] at e; cases e
theorem mend_fine {rs : List Rw} (k : In4 rs) (k' : In4 (mendL rs)) : ftL (mendL rs) = [] := (clean_iff k').mpr (mend_clean k)
theorem mend_twice {rs : List Rw} (k : In4 rs) : mendL (mendL rs) = mendL rs := clean_mend (mend_clean k)
theorem mend_same {rs : List Rw} (k : In4 rs) (k' : In4 (mendL rs)) : mendL rs = rs ↔ ftL rs = [] := ⟨fun e => by have := mend_fine k k'; rwa [e] at this, fun e => clean_mend ((clean_iff k).mp e)⟩

/-! ### hand by hand -/
theorem mend_hand {rs : List Rw} (k : In4 rs) {h : Int} (hh : h ∈ h4) : hf h (mendL rs) = mendL (hf h rs) := by
  obtain ⟨e1, e2, e3⟩ := mw_hand h rs m0 m0 rfl rfl rfl
  have e1 : (mRun rs).last h = (mRun (hf h rs)).last h := e1
  have e2 : (mRun rs).stk h = (mRun (hf h rs)).stk h := e2
  have e3 : hf h (mRun rs).fnd = (mRun (hf h rs)).fnd := e3
  have out : ∀ x, x ≠ h → (mRun (hf h rs)).stk x = [] := fun x hx => (mw_far (h := x) (hf h rs) m0 fun r hr e => hx (by
    have := (List.mem_filter.mp hr).2
    rw [← e]; simpa using this)).trans rfl
  have t1 : tail1 (mRun rs) h = tail1 (mRun (hf h rs)) h := by unfold tail1; rw [e1, e2]
  have t2 : ∀ x, x ≠ h → tail1 (mRun (hf h rs)) x = [] := fun x hx => by unfold tail1; rw [out x hx]; rfl
  have th : ∀ x, ∀ r ∈ tail1 (mRun rs) x, r.h = x := fun x r hr => by
    obtain ⟨n, _, rfl⟩ := List.mem_map.mp hr
    rfl
  have f1 : ∀ ks : List Int, ks.Nodup → hf h (ks.flatMap (tail1 (mRun rs))) = if h ∈ ks then tail1 (mRun rs) h else [] := by
    intro ks
    induction ks with
    | nil => intro _; rfl
    | cons x ks ih =>
      intro nd
      obtain ⟨nx, nd⟩ := List.nodup_cons.mp nd
      rw [List.flatMap_cons]
      unfold hf at ih ⊢
      rw [List.filter_append, ih nd]
      by_cases e : x = h
      · subst e
        rw [if_neg nx, List.append_nil, if_pos (by simp), List.filter_eq_self.mpr]
        intro r hr
        simpa using th x r hr
      · rw [List.filter_eq_nil_iff.mpr, List.nil_append]
        · by_cases m : h ∈ ks
          · rw [if_pos m, if_pos (by simp [m])]
          · rw [if_neg m, if_neg (by simp [m, Ne.symm e])]
        · intro r hr
          rw [th x r hr]
          simpa using e
  have f2 : ∀ ks : List Int, ks.Nodup → ks.flatMap (tail1 (mRun (hf h rs))) = if h ∈ ks then tail1 (mRun (hf h rs)) h else [] := by
    intro ks
    induction ks with
    | nil => intro _; rfl
    | cons x ks ih =>
      intro nd
      obtain ⟨nx, nd⟩ := List.nodup_cons.mp nd
      rw [List.flatMap_cons, ih nd]
      by_cases e : x = h
      · subst e
        rw [if_neg nx, List.append_nil, if_pos (by simp)]
      · rw [t2 x e, List.nil_append]
        by_cases m : h ∈ ks
        · rw [if_pos m, if_pos (by simp [m])]
        · rw [if_neg m, if_neg (by simp [m, Ne.symm e])]
  unfold mendL
  rw [f2 h4 h4_nd, if_pos hh, ← t1, ← e3]
  have := f1 h4 h4_nd
  rw [if_pos hh] at this
  unfold hf at this ⊢
  rw [List.filter_append, this]
theorem flat_upd {α : Type} (g : Int → List α) (add : List α) (k : Int) : ∀ {ks : List Int}, ks.Nodup → k ∈ ks → (ks.flatMap (upd g k (g k ++ add))).Perm (ks.flatMap g ++ add)
  | x :: ks, nd, m => by
    obtain ⟨nx, nd⟩ := List.nodup_cons.mp nd
    rw [List.flatMap_cons, List.flatMap_cons]
    by_cases e : x = k
    · subst e
      have : ks.flatMap (upd g x (g x ++ add)) = ks.flatMap g := by
        unfold List.flatMap
        rw [List.map_congr_left fun y hy => upd_ne g (g x ++ add) fun (z : y = x) => nx (z ▸ hy)]
      rw [this, upd_at, List.append_assoc, List.append_assoc]
      exact List.Perm.append_left _ List.perm_append_comm
    · have m : k ∈ ks := by simpa [Ne.symm e] using m
      rw [upd_ne _ _ e, List.append_assoc]
      exact List.Perm.append_left _ (flat_upd g add k nd m)
theorem f_hands {ks : List Int} (nd : ks.Nodup) : ∀ (L : List (Rw × Nat)) (s : FSt) (S : Int → FSt), (∀ r ∈ L, r.1.h ∈ ks) → (∀ h ∈ ks, s.last h = (S h).last h ∧ s.stk h = (S h).stk h) → s.fnd.Perm (ks.flatMap fun h => (S h).fnd) →
    (∀ h ∈ ks, (fw s L).stk h = (fw (S h) (hfI h L)).stk h) ∧ (fw s L).fnd.Perm (ks.flatMap fun h => (fw (S h) (hfI h L)).fnd)
  | [], s, S, _, h1, h2 => ⟨fun h hh => (h1 h hh).2, h2⟩
  | r :: L, s, S, h0, h1, h2 => by
    have hr := h0 r (by simp)
    have e : ∀ h, fw (S h) (hfI h (r :: L)) = fw (upd S r.1.h (fStep r.2 (S r.1.h) r.1) h) (hfI h L) := fun h => by
      by_cases z : r.1.h = h
      · subst z
        rw [upd_at]
        unfold hfI
        rw [List.filter_cons_of_pos (by simp)]
        rfl
      · rw [upd_ne _ _ (Ne.symm z)]
        unfold hfI
        rw [List.filter_cons_of_neg (by simpa using z)]
    simp only [e]
    refine f_hands nd L (fStep r.2 s r.1) (upd S r.1.h (fStep r.2 (S r.1.h) r.1)) (fun x hx => h0 x (by simp [hx])) (fun h hh => ?_) ?_
    · by_cases z : h = r.1.h
      · subst z
        rw [upd_at, fStep_eq, fStep_eq]
        dsimp only
        rw [upd_at, upd_at, upd_at, upd_at, (h1 _ hh).1, (h1 _ hh).2]
        exact ⟨rfl, rfl⟩
      · rw [upd_ne _ _ z, fStep_eq]
        dsimp only
        rw [upd_ne _ _ z, upd_ne _ _ z]
        exact h1 h hh
    · have e2 : (fun h => (upd S r.1.h (fStep r.2 (S r.1.h) r.1) h).fnd) = upd (fun h => (S h).fnd) r.1.h ((S r.1.h).fnd ++ fAdd r.2 (s.last r.1.h) (s.stk r.1.h) r.1) := by
        funext h
        by_cases z : h = r.1.h
        · subst z
          rw [upd_at, upd_at, fStep_eq]
          dsimp only
          rw [(h1 _ hr).1, (h1 _ hr).2]
        · rw [upd_ne _ _ z, upd_ne _ _ z]
      rw [e2, fStep_eq]
      dsimp only
      exact ((h2.append_right _).trans (flat_upd (fun h => (S h).fnd) _ _ nd hr).symm)
theorem flat_sub {α : Type} (g : Int → List α) : ∀ {ks ls : List Int}, ks.Nodup → ls.Nodup → (∀ x ∈ ks, x ∈ ls) → (∀ x, x ∉ ks → g x = []) → (ks.flatMap g).Perm (ls.flatMap g)
  | [], ls, _, _, _, h => by
    rw [List.flatMap_nil, List.flatMap_eq_nil_iff.mpr fun x _ => h x (by simp)]
  | k :: ks, ls, nd, nd', m, h => by
    obtain ⟨nk, nd⟩ := List.nodup_cons.mp nd
    have hk := m k (by simp)
    have p : ls.Perm (k :: ls.erase k) := List.perm_cons_erase hk
    refine List.Perm.trans ?_ (p.symm.flatMap_right g)
    rw [List.flatMap_cons, List.flatMap_cons]
    by_cases z : ∀ x, x ∉ ks → g x = []
    · exact List.Perm.append_left _ (flat_sub g nd (nd'.erase k) (fun x hx => (List.mem_erase_of_ne fun (e : x = k) => nk (e ▸ hx)).mpr (m x (by simp [hx]))) z)
    · have key : (ks.flatMap (upd g k [])).Perm ((ls.erase k).flatMap (upd g k [])) := flat_sub (upd g k []) nd (nd'.erase k) (fun x hx => (List.mem_erase_of_ne fun (e : x = k) => nk (e ▸ hx)).mpr (m x (by simp [hx]))) (fun x hx => by
        by_cases e : x = k
        · subst e; rw [upd_at]
        · rw [upd_ne _ _ e]; exact h x (by simp [e, hx]))
      have e1 : ks.flatMap (upd g k []) = ks.flatMap g := by
        unfold List.flatMap
        rw [List.map_congr_left fun x hx => upd_ne g [] fun (e : x = k) => nk (e ▸ hx)]
      have e2 : (ls.erase k).flatMap (upd g k []) = (ls.erase k).flatMap g := by
        unfold List.flatMap
        rw [List.map_congr_left fun x hx => upd_ne g [] fun e => by subst e; exact (List.Nodup.mem_erase_iff nd').mp hx |>.1 rfl]
      rw [e1, e2] at key
      exact List.Perm.append_left _ key
theorem allF_hands {ks : List Int} (nd : ks.Nodup) (k4 : ∀ x ∈ ks, x ∈ h4) {L : List (Rw × Nat)} (hk : ∀ r ∈ L, r.1.h ∈ ks) : (allF L).Perm (ks.flatMap fun h => allF (hfI h L)) := by
  obtain ⟨a, b⟩ := f_hands nd L f0 (fun _ => f0) hk (fun h _ => ⟨rfl, rfl⟩) (by rw [show (ks.flatMap fun _ => f0.fnd) = [] from List.flatMap_eq_nil_iff.mpr fun x _ => rfl]; exact List.Perm.refl _)
  have a : ∀ h ∈ ks, (fRun L).stk h = (fRun (hfI h L)).stk h := a
  have b : (fRun L).fnd.Perm (ks.flatMap fun h => (fRun (hfI h L)).fnd) := b
  have out : ∀ h x, x ≠ h → (fRun (hfI h L)).stk x = [] := fun h x hx => (fw_far (h := x) (hfI h L) f0 fun r hr e => hx (by
    have := (List.mem_filter.mp hr).2
    rw [← e]; simpa using this)).trans rfl
  have far : ∀ x, x ∉ ks → (fRun L).stk x = [] := fun x hx => (fw_far (h := x) L f0 fun r hr e => hx (e ▸ hk r hr)).trans rfl
  have l1 : ∀ h ∈ ks, h4.flatMap (late1 (fRun (hfI h L))) = late1 (fRun L) h := fun h hh => by
    have f2 : ∀ ls : List Int, ls.Nodup → ls.flatMap (late1 (fRun (hfI h L))) = if h ∈ ls then late1 (fRun (hfI h L)) h else [] := by
      intro ls
      induction ls with
      | nil => intro _; rfl
      | cons x ls ih =>
        intro nd
        obtain ⟨nx, nd⟩ := List.nodup_cons.mp nd
        rw [List.flatMap_cons, ih nd]
        by_cases e : x = h
        · subst e
          rw [if_neg nx, List.append_nil, if_pos (by simp)]
        · have : late1 (fRun (hfI h L)) x = [] := by unfold late1; rw [out h x e]; rfl
          rw [this, List.nil_append]
          by_cases m : h ∈ ls
          · rw [if_pos m, if_pos (by simp [m])]
          · rw [if_neg m, if_neg (by simp [m, Ne.symm e])]
    rw [f2 h4 h4_nd, if_pos (k4 h hh)]
    unfold late1
    rw [a h hh]
  have l2 : (h4.flatMap (late1 (fRun L))).Perm (ks.flatMap (late1 (fRun L))) := (flat_sub _ nd h4_nd k4 fun x hx => by unfold late1; rw [far x hx]; rfl).symm
  have split : ∀ (A B : Int → List (Int × Str)) (ls : List Int), (ls.flatMap fun h => A h ++ B h).Perm (ls.flatMap A ++ ls.flatMap B) := by
    intro A B ls
    induction ls with
    | nil => exact List.Perm.refl _
    | cons x ls ih =>
      rw [List.flatMap_cons, List.flatMap_cons, List.flatMap_cons, List.append_assoc, List.append_assoc]
      refine List.Perm.append_left _ ((ih.append_left _).trans ?_)
      rw [← List.append_assoc, ← List.append_assoc]
      exact List.Perm.append_right _ List.perm_append_comm
  unfold allF
  have e : (ks.flatMap fun h => (fRun (hfI h L)).fnd ++ h4.flatMap (late1 (fRun (hfI h L)))) = ks.flatMap fun h => (fRun (hfI h L)).fnd ++ late1 (fRun L) h := by
    unfold List.flatMap
    rw [List.map_congr_left fun h hh => by rw [show (List.map (late1 (fRun (hfI h L))) h4).flatten = h4.flatMap (late1 (fRun (hfI h L))) from rfl, l1 h hh]]
  rw [e]
  exact (b.append l2).trans (split _ _ ks).symm
/-! ### other places -/
def mpS (g : Int → Int) (s : FSt) : FSt := ⟨s.last, fun h => (s.stk h).map fun x => (g x.1, x.2), s.fnd.map fun x => (g x.1, x.2)⟩
theorem mp_step (g : Int → Int) (i : Int) (s : FSt) (r : Rw) : fStep (g i) (mpS g s) r = mpS g (fStep i s r) := by
  rw [fStep_eq, fStep_eq]
  unfold mpS
  dsimp only
  have e1 : fStk (g i) ((s.stk r.h).map fun x => (g x.1, x.2)) r = (fStk i (s.stk r.h) r).map fun x => (g x.1, x.2) := by
    unfold fStk
    rw [List.getLast?_map]
    cases r.b with
    | true => simp
    | false =>
      cases q : (s.stk r.h).getLast? with
      | none => simp
      | some x =>
        by_cases w : x.2 = r.n
        · simp [w]
        · simp [w]
  have e2 : fAdd (g i) (s.last r.h) ((s.stk r.h).map fun x => (g x.1, x.2)) r = (fAdd i (s.last r.h) (s.stk r.h) r).map fun x => (g x.1, x.2) := by
    unfold fAdd
    rw [List.getLast?_map, List.map_append]
    congr 1
    · split <;> rfl
    · cases r.b with
      | true => rfl
      | false =>
        cases q : (s.stk r.h).getLast? with
        | none => rfl
        | some x =>
          by_cases w : x.2 = r.n
          · simp [w]
          · simp [w]
  rw [e1, e2, List.map_append]
  congr 1
  funext x
  unfold upd
  split <;> rfl
theorem mp_run (g : Int → Int) (f : Nat → Nat) (hg : ∀ n : Nat, g (n : Int) = (f n : Int)) : ∀ (L : List (Rw × Nat)) (s : FSt), fw (mpS g s) (L.map fun p => (p.1, f p.2)) = mpS g (fw s L)
  | [], _ => rfl
  | r :: L, s => by
    rw [List.map_cons]
    show fw (fStep (f r.2 : Nat) (mpS g s) r.1) _ = mpS g (fw (fStep r.2 s r.1) L)
    rw [← hg, mp_step]
    exact mp_run g f hg L _
theorem mp_allF (g : Int → Int) (f : Nat → Nat) (hg : ∀ n : Nat, g (n : Int) = (f n : Int)) (L : List (Rw × Nat)) : allF (L.map fun p => (p.1, f p.2)) = (allF L).map fun x => (g x.1, x.2) := by
  have e : fRun (L.map fun p => (p.1, f p.2)) = mpS g (fRun L) := mp_run g f hg L f0
  unfold allF
  rw [e, List.map_append]
  congr 1
  unfold List.flatMap
  rw [List.map_flatten, List.map_map]
  congr 1
  refine List.map_congr_left fun h _ => ?_
  show late1 (mpS g (fRun L)) h = (late1 (fRun L) h).map _
  unfold late1 mpS
  rw [List.map_map, List.map_map]
  rfl
theorem re_zip (M : List (Rw × Nat)) (f : Nat → Nat) (hf : ∀ (j : Nat) (p : Rw × Nat), M[j]? = some p → f j = p.2) : ((M.map (·.1)).zipIdx.map fun p => (p.1, f p.2)) = M := by
  apply List.ext_getElem?
  intro j
  rw [List.getElem?_map, List.getElem?_zipIdx, List.getElem?_map]
  cases q : M[j]? with
  | none => rfl
  | some p =>
    show some (p.1, f (0 + j)) = _
    rw [Nat.zero_add, hf j p q]
/-- the faults of a hand's rows, at their places among all -/
theorem ft_hand (rs : List Rw) (h : Int) (g : Int → Int) (f : Nat → Nat) (hg : ∀ n : Nat, g (n : Int) = (f n : Int)) (hf : ∀ (j : Nat) (p : Rw × Nat), (hfI h rs.zipIdx)[j]? = some p → f j = p.2) :
    ((ftL ((hfI h rs.zipIdx).map (·.1))).map fun x => (g x.1, x.2)).Perm (allF (hfI h rs.zipIdx)) := by
  unfold ftL
  refine ((ordW_perm _).map _).trans ?_
  rw [← mp_allF g f hg, re_zip _ f hf]
/-! ### begins -/
def bg (r : Rw) : Int × Str := (r.h, r.n)
def begins (rs : List Rw) : List (Int × Str) := (rs.filter (·.b)).map bg
theorem begins_app (a b : List Rw) : begins (a ++ b) = begins a ++ begins b := by unfold begins; rw [List.filter_append, List.map_append]
theorem begins_ends (t h : Int) (ns : List Str) : begins (ns.map fun n => (⟨t, h, false, n⟩ : Rw)) = [] := by
  unfold begins
  rw [List.filter_eq_nil_iff.mpr]
  · rfl
  · intro x hx
    obtain ⟨n, _, rfl⟩ := List.mem_map.mp hx
    simp
theorem begins_add (last : Int) (stk : List Str) (r : Rw) : begins (mAdd last stk r) = begins [r] := by
  unfold mAdd
  cases hb : r.b with
  | true => rw [if_pos rfl]; unfold begins; simp [hb, bg]
  | false =>
    have : begins [r] = [] := by unfold begins; simp [hb]
    rw [if_neg (by decide), this]
    split
    · rfl
    · exact begins_ends _ _ _
theorem mw_begins : ∀ (L : List Rw) (s : MSt), begins (mw s L).fnd = begins s.fnd ++ begins L
  | [], s => by show begins s.fnd = _ ++ []; rw [List.append_nil]
  | r :: L, s => by
    show begins (mw (mStep s r) L).fnd = _
    rw [mw_begins L, mStep_eq]
    dsimp only
    rw [begins_app, begins_add, List.append_assoc, ← begins_app]
    rfl
theorem mend_begins (rs : List Rw) : begins (mendL rs) = begins rs := by
  unfold mendL
  rw [begins_app]
  have e : begins (mRun rs).fnd = begins rs := mw_begins rs m0
  have : ∀ ks : List Int, begins (ks.flatMap (tail1 (mRun rs))) = [] := by
    intro ks
    induction ks with
    | nil => rfl
    | cons x ks ih => rw [List.flatMap_cons, begins_app, ih, List.append_nil]; exact begins_ends _ _ _
  rw [e, this, List.append_nil]

/-! ### the readings tell the plain walks -/
theorem hf_sub {h : Int} {rs : List Rw} : ∀ r ∈ hf h rs, r ∈ rs := fun r hr => (List.mem_filter.mp hr).1
theorem In4.of {rs : List Rw} (h : ∀ r ∈ rs, RowOk r) : In4 rs := fun r hr => by
  have a := (h r hr).h0
  have b := (h r hr).h1
  have : r.h = 1 ∨ r.h = 2 ∨ r.h = 3 ∨ r.h = 4 := by omega
  unfold h4
  simpa using this
theorem m_faultsA {rs : List Rw} (h : ∀ r ∈ rs, RowOk r) (hl : rs.length ≤ 200) : sem_faults_of [.lst (rs.map encW)] = .ret (.t (.lst ((ftL rs).map encI))) := by
  obtain ⟨k2, K2, hin, e⟩ := m_faultsX h hl
  rw [e]
  unfold ftL allF
  rw [ordW_ext (List.Perm.append_left _ (flat_sub (late1 (fRun rs.zipIdx)) K2.nd h4_nd (fun x hx => ?_) fun x hx => by unfold late1; rw [K2.out x hx]; rfl))]
  obtain ⟨p, hp, rfl⟩ := List.mem_map.mp (hin x hx)
  exact In4.of h p.1 (List.fst_mem_of_mem_zipIdx hp)
theorem m_faults {rs : List Rw} (h : ∀ r ∈ rs, RowOk r) (hl : rs.length ≤ 200) : sem_faults [.lst (rs.map encW)] = .ret (.t (.lst ((ftL rs).map encI))) := by
  unfold sem_faults g_faults
  push_cast [m_needrows h hl, m_faultsA h hl]
theorem ordI_le (ns : List Int) : (ordI ns).Pairwise (· ≤ ·) := by
  have h : (ordI ns).Pairwise fun a b => PySem.W.dataLe false pyD (.int a) (.int b) = true :=
    List.pairwise_mergeSort (fun a b c => dleW_tr pyD (.int a) (.int b) (.int c)) (fun a b => dleW_tot pyD (.int a) (.int b)) ns
  refine h.imp fun {a b} z => ?_
  rw [dleW, lxW] at z
  have z : (!PyProof.Rows.lexLt PyProof.Rows.itemOrd [Sum.inl b] [Sum.inl a]) = true := z
  simp [PyProof.Rows.lexLt, PyProof.Rows.itemOrd, PyProof.Rows.itemLt] at z
  exact z
theorem flat_ord {α : Type} (g : Int → List α) {ks : List Int} (nd : ks.Nodup) (k4 : ∀ x ∈ ks, x ∈ h4) (out : ∀ x, x ∉ ks → g x = []) : (ordI ks).flatMap g = h4.flatMap g := by
  have e1 : h4.flatMap g = (h4.filter fun x => decide (x ∈ ks)).flatMap g := by
    have : ∀ l : List Int, l.flatMap g = (l.filter fun x => decide (x ∈ ks)).flatMap g := by
      intro l
      induction l with
      | nil => rfl
      | cons x l ih =>
        by_cases m : x ∈ ks
        · rw [List.filter_cons_of_pos (by simpa using m), List.flatMap_cons, List.flatMap_cons, ih]
        · rw [List.filter_cons_of_neg (by simpa using m), List.flatMap_cons, out x m, List.nil_append, ih]
    exact this h4
  rw [e1]
  congr 1
  refine List.Perm.eq_of_pairwise (le := (· ≤ ·)) (fun a b _ _ h1 h2 => Int.le_antisymm h1 h2) (ordI_le ks) (List.Pairwise.filter _ (by decide)) ((ordI_perm ks).trans ?_)
  exact (List.perm_ext_iff_of_nodup nd (h4_nd.filter _)).mpr fun x => by
    rw [List.mem_filter]
    constructor
    · exact fun hx => ⟨k4 x hx, by simpa using hx⟩
    · exact fun hx => by simpa using hx.2
theorem m_mendedA {rs : List Rw} (h : ∀ r ∈ rs, RowOk r) (hl : rs.length ≤ 200) : sem_mended_of [.lst (rs.map encW)] = .ret (.t (.lst ((mendL rs).map encW))) := by
  obtain ⟨k2, K2, hin, e⟩ := m_mendedX (rs := rs) hl
  rw [e, flat_ord (tail1 (mRun rs)) K2.nd (fun x hx => ?_) fun x hx => by unfold tail1; rw [K2.out x hx]; rfl]
  · rfl
  · obtain ⟨p, hp, rfl⟩ := List.mem_map.mp (hin x hx)
    exact In4.of h p hp
theorem m_mended {rs : List Rw} (h : ∀ r ∈ rs, RowOk r) (hl : rs.length ≤ 200) : sem_mended [.lst (rs.map encW)] = .ret (.t (.lst ((mendL rs).map encW))) := by
  unfold sem_mended g_mended
  push_cast [m_needrows h hl, m_mendedA h hl]
theorem sortSet_i {ns : List Int} (h : ns.length + 1 < 4096) : sSortSet (.lst (ns.map D.int)) = some (.t (.lst ((sortI ns).map .int))) := by
  unfold sSortSet
  dsimp only
  rw [List.length_map, if_pos h, asInts_map]
theorem sortI_ok (ns : List Int) : (sortI ns).Pairwise (· < ·) ∧ ∀ n, n ∈ sortI ns ↔ n ∈ ns := by
  have hp : (sortI ns).Perm (nub ns) := List.mergeSort_perm _ _
  refine ⟨?_, fun n => by rw [hp.mem_iff, mem_nub]⟩
  have h : (sortI ns).Pairwise fun a b => decide (a ≤ b) = true := by
    unfold sortI
    refine List.pairwise_mergeSort (fun a b c h1 h2 => ?_) (fun a b => ?_) _
    · rw [decide_eq_true_eq] at *; omega
    · rw [Bool.or_eq_true, decide_eq_true_eq, decide_eq_true_eq]; omega
  have nd : (sortI ns).Nodup := hp.nodup_iff.mpr (nodup_nub ns)
  refine (List.pairwise_and_iff.mpr ⟨h, nd⟩).imp fun {a b} z => ?_
  have z1 := of_decide_eq_true z.1
  have z2 := z.2
  omega
theorem m_hands {rs : List Rw} (h : ∀ r ∈ rs, RowOk r) (hl : rs.length ≤ 200) : sem_hands [.lst (rs.map encW)] = .ret (.t (.lst ((sortI (rs.map (·.h))).map .int))) := by
  unfold sem_hands g_hands
  push_cast [m_needrows h hl]
  rw [lcL_one encW (fun r => .int r.h) rs rfl rfl (fun r hr => rfl) (by omega)]
  have e1 : (rs.map fun r => D.int r.h) = (rs.map (·.h)).map D.int := by rw [List.map_map]; rfl
  push_cast [e1, sortSet_i (show (rs.map (·.h)).length + 1 < 4096 by rw [List.length_map]; omega)]
theorem sortI_one {ns : List Int} {h : Int} (ne : ns ≠ []) (k : ∀ n ∈ ns, n = h) : sortI ns = [h] := by
  refine srt_ext (lt := (· < ·)) (fun a => Int.lt_irrefl a) (fun a b c => Int.lt_trans) (sortI_ok _).1 (by simp) fun x => ?_
  rw [(sortI_ok _).2, List.mem_singleton]
  constructor
  · exact k x
  · rintro rfl
    obtain ⟨y, hy⟩ := List.exists_mem_of_ne_nil ns ne
    rw [← k y hy]; exact hy
/-! ### mended rows are rows, and not many -/
theorem mAdd_ok {last : Int} {stk : List Str} {r : Rw} (h : RowOk r) (l0 : 0 ≤ last) (l1 : last ≤ 1000000) (hs : ∀ n ∈ stk, NameOk n) : ∀ x ∈ mAdd last stk r, RowOk x := by
  have t0 := h.t0
  have t1 := h.t1
  intro x hx
  unfold mAdd at hx
  split at hx
  · rw [List.mem_singleton] at hx
    subst hx
    exact ⟨by show 0 ≤ max r.t last; omega, by show max r.t last ≤ 1000000; omega, h.h0, h.h1, h.nm⟩
  · split at hx
    · cases hx
    · obtain ⟨n, hn, rfl⟩ := List.mem_map.mp hx
      exact ⟨by show 0 ≤ max r.t last; omega, by show max r.t last ≤ 1000000; omega, h.h0, h.h1, hs n ((List.drop_sublist _ _).subset (List.mem_reverse.mp hn))⟩
structure MGood (s : MSt) : Prop where
  l0 : ∀ h, 0 ≤ s.last h ∧ s.last h ≤ 1000000
  nm : ∀ h, ∀ n ∈ s.stk h, NameOk n
  fn : ∀ x ∈ s.fnd, RowOk x
theorem MGood.step {s : MSt} (k : MGood s) {r : Rw} (h : RowOk r) : MGood (mStep s r) := by
  rw [mStep_eq]
  refine ⟨fun x => ?_, fun x n hn => ?_, fun x hx => ?_⟩
  · show 0 ≤ upd s.last r.h _ x ∧ _
    have a := k.l0 x
    have b := k.l0 r.h
    have c := h.t0
    have d := h.t1
    dsimp only
    unfold upd
    split <;> omega
  · have hn : n ∈ upd s.stk r.h (mStk (s.stk r.h) r) x := hn
    unfold upd at hn
    split at hn
    · unfold mStk at hn
      split at hn
      · rcases List.mem_append.mp hn with z | z
        · exact k.nm _ n z
        · rw [List.mem_singleton] at z; rw [z]; exact h.nm
      · split at hn
        · exact k.nm _ n hn
        · exact k.nm _ n ((List.take_sublist _ _).subset hn)
    · exact k.nm _ n hn
  · rcases List.mem_append.mp hx with z | z
    · exact k.fn x z
    · exact mAdd_ok h (k.l0 _).1 (k.l0 _).2 (k.nm _) x z
theorem MGood.fold : ∀ (L : List Rw) {s : MSt}, MGood s → (∀ r ∈ L, RowOk r) → MGood (mw s L)
  | [], _, k, _ => k
  | r :: L, _, k, h => MGood.fold L (k.step (h r (by simp))) fun x hx => h x (by simp [hx])
theorem MGood.run {rs : List Rw} (h : ∀ r ∈ rs, RowOk r) : MGood (mRun rs) := MGood.fold rs (s := m0) ⟨fun _ => ⟨Int.le_refl _, (by decide : (0 : Int) ≤ 1000000)⟩, (fun h n hn => nomatch hn), (fun x hx => nomatch hx)⟩ h
theorem mend_ok {rs : List Rw} (h : ∀ r ∈ rs, RowOk r) : ∀ r ∈ mendL rs, RowOk r := by
  have k := MGood.run h
  intro x hx
  rcases List.mem_append.mp hx with z | z
  · exact k.fn x z
  · obtain ⟨y, hy, hm⟩ := List.mem_flatMap.mp z
    obtain ⟨n, hn, rfl⟩ := List.mem_map.mp hm
    refine ⟨(k.l0 y).1, (k.l0 y).2, ?_, ?_, k.nm y n (List.mem_reverse.mp hn)⟩
    · show 1 ≤ y
      unfold h4 at hy; simp at hy; omega
    · show y ≤ 4
      unfold h4 at hy; simp at hy; omega
def sumK (k : Int → List Str) : Nat := (k 1).length + (k 2).length + (k 3).length + (k 4).length
theorem sumK_upd {k : Int → List Str} {h : Int} (hh : h ∈ h4) (v : List Str) : sumK (upd k h v) + (k h).length = sumK k + v.length := by
  unfold h4 at hh
  simp only [List.mem_cons, List.not_mem_nil, or_false] at hh
  unfold sumK upd
  rcases hh with rfl | rfl | rfl | rfl <;> simp <;> omega
theorem m_many : ∀ (L : List Rw) (s : MSt), In4 L → (mw s L).fnd.length + sumK (mw s L).stk ≤ s.fnd.length + sumK s.stk + 2 * L.length
  | [], _, _ => Nat.le_refl _
  | r :: L, s, k => by
    refine Nat.le_trans (m_many L (mStep s r) fun x hx => k x (by simp [hx])) ?_
    rw [mStep_eq]
    dsimp only
    have e := sumK_upd (k := s.stk) (k r (by simp)) (mStk (s.stk r.h) r)
    rw [List.length_append, List.length_cons]
    have : (mAdd (s.last r.h) (s.stk r.h) r).length + (mStk (s.stk r.h) r).length ≤ (s.stk r.h).length + 2 := by
      unfold mAdd mStk
      split
      · rw [List.length_append, List.length_singleton, List.length_singleton]; omega
      · split
        · rw [List.length_nil]; omega
        · rename_i p _
          rw [List.length_map, List.length_reverse, List.length_drop, List.length_take]
          omega
    omega
theorem mend_len {rs : List Rw} (h : ∀ r ∈ rs, RowOk r) : (mendL rs).length ≤ 2 * rs.length := by
  have := m_many rs m0 (In4.of h)
  have e : (mRun rs).fnd.length + sumK (mRun rs).stk ≤ 0 + 0 + 2 * rs.length := this
  have t : (h4.flatMap (tail1 (mRun rs))).length = sumK (mRun rs).stk := by
    unfold h4 tail1 sumK
    simp
    omega
  unfold mendL
  rw [List.length_append, t]
  omega
/-! ### equal, or not -/
theorem lay_W {r : Rw} (h : NameOk r.n) : Lay 1 (encW r) := lay_tup (n := 0) fun x hx => by
  simp only [List.mem_cons, List.not_mem_nil, or_false] at hx
  rcases hx with rfl | rfl | rfl | rfl
  · exact lay_int _ _
  · exact lay_int _ _
  · refine lay_str _ ?_
    cases r.b <;> decide +kernel
  · exact lay_str _ h.2
theorem lay_WL {rs : List Rw} (h : ∀ r ∈ rs, RowOk r) : Lay 60 (.lst (rs.map encW)) := lay_list (n := 1) (by decide) fun r hr => lay_W (h r hr).nm

/-! ### rows of trees, by the law's own, and mixed -/
theorem m_lines (h : Int) (n : Nat) : ∀ (t : Tr), depth t < n → cnt t ≤ 120 → sem_law_lines n [.int h, .tup (encF t)] = .ret (.t (.lst ((rowsT h t).map encW))) := by
  induction n with
  | zero => intro t h; omega
  | succ n ih =>
    intro t hd hc
    unfold sem_law_lines g_law_lines
    push_cast [show (0 : Nat) ≤ lineN from Nat.zero_le _, encF_kids]
    refine fin_for encN (fun pre post env => ∃ c3 c4 c5 c6, env = [.frz (.int h), .frz (.tup ((kids t).map encN)), .own (.lst ((pre.flatMap (rowX h)).map encW)), c3, c4, c5, c6]) (kids t) _ ⟨_, _, _, _, rfl⟩ ?_ ?_
    · rintro pre x post env e ⟨c3, c4, c5, c6, rfl⟩
      have hx : x ∈ kids t := by rw [e]; simp
      refine ⟨_, rfl, ?_⟩
      have e1 := ih x.i (by have := kid_depth hx; omega) (by have := kid_cnt hx; omega)
      have e2 : ((pre ++ [x]).flatMap (rowX h)).length ≤ 2 * cnt t := rowX_pre (post := post) (by rw [e, List.append_assoc]; rfl)
      have e3 : (pre ++ [x]).flatMap (rowX h) = pre.flatMap (rowX h) ++ rowX h x := by rw [List.flatMap_append]; simp
      have e4 : (rowX h x).length = (rowsT h x.i).length + 2 := by unfold rowX; simp
      rw [e3, List.length_append, e4] at e2
      have a1 := e_cat (xs := (pre.flatMap (rowX h)).map encW) (ys := [D.tup [D.int x.a, D.int h, D.str "begin", D.str x.n]]) (by rw [List.length_map, List.length_singleton]; omega)
      have a2 := e_cat (xs := (pre.flatMap (rowX h)).map encW ++ [D.tup [D.int x.a, D.int h, D.str "begin", D.str x.n]]) (ys := (rowsT h x.i).map encW) (by rw [List.length_append, List.length_map, List.length_map, List.length_singleton]; omega)
      have a3 := e_cat (xs := (pre.flatMap (rowX h)).map encW ++ [D.tup [D.int x.a, D.int h, D.str "begin", D.str x.n]] ++ (rowsT h x.i).map encW) (ys := [D.tup [D.int x.b, D.int h, D.str "end", D.str x.n]]) (by rw [List.length_append, List.length_append, List.length_map, List.length_map, List.length_singleton, List.length_singleton]; omega)
      push_cast [nd_enc x, show (4 : Nat) ≤ lineN by decide, show (1 : Nat) ≤ lineN by decide, a1, e1, a2, a3]
      have e5 : (pre.flatMap (rowX h)).map encW ++ [D.tup [D.int x.a, D.int h, D.str "begin", D.str x.n]] ++ (rowsT h x.i).map encW ++ [D.tup [D.int x.b, D.int h, D.str "end", D.str x.n]] = ((pre ++ [x]).flatMap (rowX h)).map encW := by
        rw [e3, List.map_append, List.append_assoc, List.append_assoc]
        unfold rowX
        rw [List.map_cons, List.map_append]
        rfl
      rw [e5]
      exact ⟨_, _, _, _, rfl⟩
    · rintro env ⟨c3, c4, c5, c6, rfl⟩
      push_cast [rowsT_kids]
/-- lists from which the first row is taken, now here, now there, until none is left -/
inductive Mix : List (List Rw) → List Rw → Prop
  | done {ls : List (List Rw)} : (∀ l ∈ ls, l = []) → Mix ls []
  | take {A B : List (List Rw)} {r : Rw} {l xs : List Rw} : Mix (A ++ l :: B) xs → Mix (A ++ (r :: l) :: B) (r :: xs)
def encLs (ls : List (List Rw)) : List (List D) := ls.map fun l => l.map encW
theorem full_enc (l : List Rw) : full (l.map encW) = !l.isEmpty := by cases l <;> rfl
theorem mixPop_enc : ∀ (ls : List (List Rw)) (k : Nat), k < ((encLs ls).filter full).length → ∃ A B r l, ls = A ++ (r :: l) :: B ∧ mixPop k (encLs ls) = some (encW r, encLs (A ++ l :: B))
  | [], k, h => by simp [encLs] at h
  | [] :: ls, k, h => by
    have e : (encLs ([] :: ls)).filter full = (encLs ls).filter full := by unfold encLs; rw [List.map_cons, List.filter_cons_of_neg (by decide)]
    rw [e] at h
    obtain ⟨A, B, r, l, e1, e2⟩ := mixPop_enc ls k h
    refine ⟨[] :: A, B, r, l, by rw [e1]; rfl, ?_⟩
    show mixPop k ([] :: encLs ls) = _
    rw [mixPop, e2]
    rfl
  | (r :: l) :: ls, 0, h => ⟨[], ls, r, l, rfl, rfl⟩
  | (r :: l) :: ls, k + 1, h => by
    have e : ((encLs ((r :: l) :: ls)).filter full).length = ((encLs ls).filter full).length + 1 := by
      unfold encLs
      rw [List.map_cons, List.filter_cons_of_pos (by rw [full_enc]; rfl), List.length_cons]
    rw [e] at h
    obtain ⟨A, B, r', l', e1, e2⟩ := mixPop_enc ls k (by omega)
    refine ⟨(r :: l) :: A, B, r', l', by rw [e1]; rfl, ?_⟩
    show mixPop (k + 1) ((encW r :: l.map encW) :: encLs ls) = _
    rw [mixPop, e2]
    rfl
def tot2 (ls : List (List Rw)) : Nat := (ls.map List.length).sum
theorem mixFine_enc {ls : List (List Rw)} (hl : ls.length ≤ 4) (h : ∀ l ∈ ls, ∀ r ∈ l, RowOk r) : mixFine (encLs ls) = true := by
  unfold mixFine
  rw [Bool.and_eq_true, Bool.and_eq_true]
  have lay : ∀ l ∈ encLs ls, Lay 2 (.lst l) := fun l hm => by
    obtain ⟨m, hm', rfl⟩ := List.mem_map.mp hm
    exact lay_lst (n := 1) fun d hd => by
      obtain ⟨r, hr, rfl⟩ := List.mem_map.mp hd
      exact lay_W (h m hm' r hr).nm
  refine ⟨⟨decide_eq_true (by unfold encLs; rw [List.length_map]; omega), ?_⟩, ?_⟩
  · exact List.all_eq_true.mpr fun l hm => neNil_of ((lay l hm).mono (by decide))
  · refine neNil_of ((lay_lst (n := 2) fun d hd => ?_).mono (by decide))
    obtain ⟨l, hm, rfl⟩ := List.mem_map.mp hd
    exact lay l (List.mem_filter.mp hm).1
theorem m_mixGo (more : Int) : ∀ (n : Nat) (ls : List (List Rw)) (turn : Nat) (found : List D), tot2 ls < n → ls.length ≤ 4 → (∀ l ∈ ls, ∀ r ∈ l, RowOk r) → ∃ xs, Mix ls xs ∧ mixGo sem_law_drawn (.int more) n (encLs ls) turn found = some (found ++ xs.map encW)
  | 0, _, _, _, h, _, _ => by omega
  | n + 1, ls, turn, found, h, hl, hok => by
    unfold mixGo
    rw [if_pos (mixFine_enc hl hok)]
    by_cases z : ((encLs ls).filter full).isEmpty = true
    · rw [if_pos z]
      refine ⟨[], .done fun l hm => ?_, by rw [List.map_nil, List.append_nil]⟩
      have := List.filter_eq_nil_iff.mp (List.isEmpty_iff.mp z) (l.map encW) (List.mem_map.mpr ⟨l, hm, rfl⟩)
      rw [full_enc] at this
      cases l with
      | nil => rfl
      | cons x l => exact absurd rfl this
    · rw [if_neg z]
      obtain ⟨v, hv, v0, _⟩ := m_drawn more (turn : Nat)
      rw [hv]
      dsimp only
      have hp : 0 < ((encLs ls).filter full).length := by
        rcases Nat.eq_zero_or_pos ((encLs ls).filter full).length with q | q
        · rw [List.eq_nil_of_length_eq_zero q] at z; exact absurd rfl z
        · exact q
      have p0 := Int.emod_nonneg (v / 8) (show (((encLs ls).filter full).length : Int) ≠ 0 by omega)
      have p1 := Int.emod_lt_of_pos (v / 8) (show (0 : Int) < ((encLs ls).filter full).length by omega)
      obtain ⟨A, B, r, l, e1, e2⟩ := mixPop_enc ls (v / 8 % (((encLs ls).filter full).length : Int)).toNat (by omega)
      rw [e2]
      dsimp only
      subst e1
      have ht : tot2 (A ++ l :: B) + 1 = tot2 (A ++ (r :: l) :: B) := by unfold tot2; simp; omega
      obtain ⟨xs, m, e⟩ := m_mixGo more n (A ++ l :: B) (turn + 1) (found ++ [encW r]) (by omega) (by simpa using hl) (fun l' hm r' hr => by
        rcases List.mem_append.mp hm with q | q
        · exact hok l' (by simp [q]) r' hr
        · rcases List.mem_cons.mp q with rfl | q
          · exact hok (r :: l') (by simp) r' (by simp [hr])
          · exact hok l' (by simp [q]) r' hr)
      exact ⟨r :: xs, .take m, by rw [e, List.append_assoc]; rfl⟩
theorem m_mixRows {hs : List (Int × Tr)} (H : Hands hs) : ∀ (ks : List (Int × Tr)), (∀ p ∈ ks, p ∈ hs) → mixRows (sem_law_lines 6) (.dK (encH hs)) (ks.map fun p => .int p.1) = some (encLs (ks.map fun p => rowsT p.1 p.2))
  | [], _ => rfl
  | p :: ks, h => by
    have hm := h p (by simp)
    rw [List.map_cons]
    unfold mixRows
    rw [ix_H H.nd hm]
    dsimp only
    rw [m_lines p.1 6 p.2 (by have : depth p.2 ≤ 4 := H.deep _ hm; omega) (H.small _ hm)]
    dsimp only
    rw [m_mixRows H ks fun q hq => h q (by simp [hq])]
    rfl
theorem tot_len {α : Type} (f : α → List Rw) {c : Nat} : ∀ {l : List α}, (∀ x ∈ l, (f x).length ≤ c) → tot2 (l.map f) ≤ c * l.length
  | [], _ => Nat.le_refl _
  | x :: l, h => by
    have := tot_len f (l := l) fun y hy => h y (by simp [hy])
    have h1 := h x (by simp)
    unfold tot2 at this ⊢
    rw [List.map_cons, List.map_cons, List.sum_cons, List.length_cons, Nat.mul_add]
    omega
theorem m_mixed {hs : List (Int × Tr)} (H : Hands hs) (more : Int) : ∃ xs, Mix ((ordH hs).map fun p => rowsT p.1 p.2) xs ∧ sem_law_mixed [.dK (encH hs), .int more] = .ret (.t (.lst (xs.map encW))) := by
  have hp := ordH_perm hs
  have hl : (ordH hs).length ≤ 4 := by rw [hp.length_eq]; exact H.few
  have ht : tot2 ((ordH hs).map fun p => rowsT p.1 p.2) ≤ 240 * (ordH hs).length := tot_len (fun p : Int × Tr => rowsT p.1 p.2) fun p hm => by rw [rowsT_len]; have := H.small p (hp.mem_iff.mp hm); omega
  obtain ⟨xs, m, e⟩ := m_mixGo more 4096 ((ordH hs).map fun p => rowsT p.1 p.2) 0 [] (by omega) (by rw [List.length_map]; exact hl) (fun l hm r hr => by
    obtain ⟨p, hm', rfl⟩ := List.mem_map.mp hm
    have hm := hp.mem_iff.mp hm'
    exact rowsT_ok (H.rng p hm).1 (H.rng p hm).2 (H.good p hm) (Int.le_refl _) (Int.le_refl _) r hr)
  refine ⟨xs, m, ?_⟩
  unfold sem_law_mixed semMix
  dsimp only
  rw [sort2_k, sort_H]
  dsimp only
  rw [m_mixRows H (ordH hs) fun p hm => hp.mem_iff.mp hm]
  dsimp only
  rw [if_pos (by unfold encLs; rw [List.length_map, List.length_map]; omega), e, List.nil_append]
theorem Mix.mem {ls : List (List Rw)} {xs : List Rw} (m : Mix ls xs) : ∀ r, r ∈ xs ↔ ∃ l ∈ ls, r ∈ l := by
  induction m with
  | done h =>
    intro r
    constructor
    · intro z; cases z
    · rintro ⟨l, hl, hr⟩
      rw [h l hl] at hr
      cases hr
  | @take A B r' l xs m ih =>
    intro r
    rw [List.mem_cons, ih]
    constructor
    · rintro (rfl | ⟨l', h1, h2⟩)
      · exact ⟨r :: l, by simp, by simp⟩
      · rcases List.mem_append.mp h1 with q | q
        · exact ⟨l', by simp [q], h2⟩
        · rcases List.mem_cons.mp q with rfl | q
          · exact ⟨r' :: l', by simp, by simp [h2]⟩
          · exact ⟨l', by simp [q], h2⟩
    · rintro ⟨l', h1, h2⟩
      rcases List.mem_append.mp h1 with q | q
      · exact .inr ⟨l', by simp [q], h2⟩
      · rcases List.mem_cons.mp q with rfl | q
        · rcases List.mem_cons.mp h2 with rfl | h2
          · exact .inl rfl
          · exact .inr ⟨l, by simp, h2⟩
        · exact .inr ⟨l', by simp [q], h2⟩
theorem mix_rows {hs : List (Int × Tr)} (H : Hands hs) {xs : List Rw} (m : Mix ((ordH hs).map fun p => rowsT p.1 p.2) xs) : ∀ r ∈ xs, RowOk r := fun r hr => by
  obtain ⟨l, hl, h⟩ := (m.mem r).mp hr
  obtain ⟨p, hm, rfl⟩ := List.mem_map.mp hl
  have hm := (ordH_perm hs).mem_iff.mp hm
  exact rowsT_ok (H.rng p hm).1 (H.rng p hm).2 (H.good p hm) (Int.le_refl _) (Int.le_refl _) r h

/-! ### where faults lie, and what they are called -/
def w4 : List Str := ["early", "lone", "other", "late"]
theorem fw_mem (P : Int → Prop) : ∀ (L : List (Rw × Nat)) (s : FSt), (∀ p ∈ L, P (p.2 : Nat)) → (∀ x ∈ s.fnd, P x.1 ∧ x.2 ∈ w4) → (∀ h, ∀ x ∈ s.stk h, P x.1) → (∀ x ∈ (fw s L).fnd, P x.1 ∧ x.2 ∈ w4) ∧ ∀ h, ∀ x ∈ (fw s L).stk h, P x.1
  | [], _, _, h1, h2 => ⟨h1, h2⟩
  | r :: L, s, h0, h1, h2 => by
    have hr := h0 r (by simp)
    refine fw_mem P L (fStep r.2 s r.1) (fun p hp => h0 p (by simp [hp])) (fun x hx => ?_) (fun h x hx => ?_)
    · rw [fStep_eq] at hx
      rcases List.mem_append.mp hx with z | z
      · exact h1 x z
      · unfold fAdd at z
        rcases List.mem_append.mp z with z | z
        · split at z
          · rw [List.mem_singleton] at z; subst z; exact ⟨hr, by simp [w4]⟩
          · cases z
        · split at z
          · cases z
          · split at z
            · rw [List.mem_singleton] at z; subst z; exact ⟨hr, by simp [w4]⟩
            · split at z
              · cases z
              · rw [List.mem_singleton] at z; subst z; exact ⟨hr, by simp [w4]⟩
    · rw [fStep_eq] at hx
      have hx : x ∈ upd s.stk r.1.h (fStk r.2 (s.stk r.1.h) r.1) h := hx
      unfold upd at hx
      split at hx
      · unfold fStk at hx
        split at hx
        · rcases List.mem_append.mp hx with z | z
          · exact h2 _ x z
          · rw [List.mem_singleton] at z; subst z; exact hr
        · split at hx
          · exact h2 _ x hx
          · split at hx
            · exact h2 _ x ((List.dropLast_sublist _).subset hx)
            · exact h2 _ x hx
      · exact h2 _ x hx
theorem allF_mem (P : Int → Prop) {L : List (Rw × Nat)} (h : ∀ p ∈ L, P (p.2 : Nat)) : ∀ x ∈ allF L, P x.1 ∧ x.2 ∈ w4 := by
  obtain ⟨a, b⟩ := fw_mem P L f0 h (fun x hx => nomatch hx) (fun h x hx => nomatch hx)
  intro x hx
  rcases List.mem_append.mp hx with z | z
  · exact a x z
  · obtain ⟨k, _, z⟩ := List.mem_flatMap.mp z
    obtain ⟨y, hy, rfl⟩ := List.mem_map.mp z
    exact ⟨b k y hy, by simp [w4]⟩
theorem ftL_mem {rs : List Rw} : ∀ x ∈ ftL rs, (∃ j : Nat, j < rs.length ∧ x.1 = (j : Int)) ∧ x.2 ∈ w4 := fun x hx => by
  refine allF_mem (fun i => ∃ j : Nat, j < rs.length ∧ i = (j : Int)) (fun p hp => ⟨p.2, ?_, rfl⟩) x ((ordW_perm _).mem_iff.mp hx)
  have := List.snd_lt_of_mem_zipIdx hp
  omega
theorem lay_w4 {p : Int × Str} (h : p.2 ∈ w4) : Lay 1 (encI p) := lay_tup (n := 0) fun x hx => by
  simp only [List.mem_cons, List.not_mem_nil, or_false] at hx
  rcases hx with rfl | rfl
  · exact lay_int _ _
  · unfold w4 at h
    simp only [List.mem_cons, List.not_mem_nil, or_false] at h
    rcases h with h | h | h | h <;> rw [h] <;> exact lay_str _ (by decide +kernel)
theorem fw_many : ∀ (L : List (Rw × Nat)) (s : FSt), (fw s L).fnd.length ≤ s.fnd.length + 2 * L.length
  | [], _ => Nat.le_refl _
  | r :: L, s => by
    have := fw_many L (fStep r.2 s r.1)
    have := fStep_len r.2 s r.1
    rw [List.length_cons]
    show (fw (fStep r.2 s r.1) L).fnd.length ≤ _
    omega
theorem fw_stk : ∀ (L : List (Rw × Nat)) (s : FSt) (h : Int), ((fw s L).stk h).length ≤ (s.stk h).length + L.length
  | [], _, _ => Nat.le_refl _
  | r :: L, s, h => by
    have := fw_stk L (fStep r.2 s r.1) h
    have := (fStep_stk r.2 s r.1 h).1
    rw [List.length_cons]
    show ((fw (fStep r.2 s r.1) L).stk h).length ≤ _
    omega
theorem allF_len (L : List (Rw × Nat)) : (allF L).length ≤ 6 * L.length := by
  have a : (fRun L).fnd.length ≤ 0 + 2 * L.length := fw_many L f0
  have b : (h4.flatMap (late1 (fRun L))).length ≤ L.length * h4.length := len_flat fun h _ => by
    unfold late1
    rw [List.length_map]
    have : ((fRun L).stk h).length ≤ 0 + L.length := fw_stk L f0 h
    omega
  unfold allF
  rw [List.length_append]
  have : h4.length = 4 := rfl
  rw [this] at b
  omega
theorem ftL_len (rs : List Rw) : (ftL rs).length ≤ 6 * rs.length := by
  unfold ftL
  rw [(ordW_perm _).length_eq]
  have := allF_len rs.zipIdx
  rw [List.length_zipIdx] at this
  exact this
theorem ix_word (v : Int) : sIx (.lst [.str "begin", .str "end"]) (.int (v % 2)) = some (.f (.str (wrd (decide (v % 2 = 0))))) := by
  have h : v % 2 = 0 ∨ v % 2 = 1 := by omega
  rcases h with h | h
  · rw [h]; rfl
  · rw [h]; rfl
theorem hfI_fst (h : Int) (rs : List Rw) : (hfI h rs.zipIdx).map (·.1) = hf h rs := by
  unfold hfI hf
  have key : ∀ (l : List Rw) (k : Nat), ((l.zipIdx k).filter fun r => decide (r.1.h = h)).map (·.1) = l.filter fun r => decide (r.h = h) := by
    intro l
    induction l with
    | nil => intro k; rfl
    | cons x l ih =>
      intro k
      rw [List.zipIdx_cons]
      by_cases z : x.h = h
      · rw [List.filter_cons_of_pos (by simpa using z), List.filter_cons_of_pos (by simpa using z), List.map_cons, ih]
      · rw [List.filter_cons_of_neg (by simpa using z), List.filter_cons_of_neg (by simpa using z), ih]
  exact key rs 0
theorem ix_zip {rs : List Rw} {p : Rw × Nat} (h : p ∈ rs.zipIdx) : sIx (.lst (rs.map encW)) (.int (p.2 : Nat)) = some (.f (encW p.1)) := by
  have : rs[p.2]? = some p.1 := List.mem_zipIdx_iff_getElem?.mp h
  show (L2.atI (rs.map encW) ((p.2 : Nat) : Int)).map Rn.f = _
  rw [atI_i (by omega) (v := encW p.1) (by rw [Int.toNat_natCast, List.getElem?_map, this]; rfl)]
  rfl
def plcG (M : List (Rw × Nat)) (i : Int) : Int := ((M[i.toNat]?.map (·.2)).getD 0 : Nat)
def plcF (M : List (Rw × Nat)) (j : Nat) : Nat := (M[j]?.map (·.2)).getD 0
theorem ix_plc {M : List (Rw × Nat)} {j : Nat} (h : j < M.length) : sIx (.lst (M.map fun p => .int (p.2 : Nat))) (.int (j : Nat)) = some (.f (.int (plcG M (j : Nat)))) := by
  show (L2.atI (M.map fun p => D.int (p.2 : Nat)) ((j : Nat) : Int)).map Rn.f = _
  have e : M[j]? = some M[j] := List.getElem?_eq_getElem h
  rw [atI_i (by omega) (v := D.int (M[j].2 : Nat)) (by rw [Int.toNat_natCast, List.getElem?_map, e]; rfl)]
  unfold plcG
  rw [Int.toNat_natCast, e]
  rfl
theorem ft_hand2 (rs : List Rw) (h : Int) : ((ftL (hf h rs)).map fun x => (plcG (hfI h rs.zipIdx) x.1, x.2)).Perm (allF (hfI h rs.zipIdx)) := by
  have := ft_hand rs h (plcG (hfI h rs.zipIdx)) (plcF (hfI h rs.zipIdx)) (fun n => by unfold plcG plcF; rw [Int.toNat_natCast]) (fun j p e => by unfold plcF; rw [e]; rfl)
  rwa [hfI_fst] at this
/-! ### equal rows -/
theorem pl_W {r : Rw} (h : NameOk r.n) : Pl 1 (encW r) := pl_tup (n := 0) fun x hx => by
  simp only [List.mem_cons, List.not_mem_nil, or_false] at hx
  rcases hx with rfl | rfl | rfl | rfl
  · exact pl_int _ _
  · exact pl_int _ _
  · refine pl_str _ ?_
    cases r.b <;> decide +kernel
  · exact pl_str _ h.2
theorem pl_WL {rs : List Rw} (h : ∀ r ∈ rs, RowOk r) : Pl 60 (.lst (rs.map encW)) := (pl_lst (n := 1) fun d hd => by
  obtain ⟨r, hr, rfl⟩ := List.mem_map.mp hd
  exact pl_W (h r hr).nm).mono (by decide)
theorem encW_inj {a b : Rw} (h : encW a = encW b) : a = b := by
  obtain ⟨t, k, c, n⟩ := a
  obtain ⟨t', k', c', n'⟩ := b
  unfold encW at h
  simp only [D.tup.injEq, List.cons.injEq, D.int.injEq, D.str.injEq, and_true] at h
  obtain ⟨h1, h2, h3, h4⟩ := h
  subst h1; subst h2; subst h4
  have : c = c' := by
    cases c <;> cases c' <;> first | rfl | (exact absurd h3 (by decide +kernel))
  subst this
  rfl
theorem eq_WL {rs qs : List Rw} (h : ∀ r ∈ rs, RowOk r) (k : ∀ r ∈ qs, RowOk r) (b : Bool) (hb : rs = qs ↔ b = true) : sEq (.lst (rs.map encW)) (.lst (qs.map encW)) = some (.f (.bl b)) := by
  haveI : Decidable (D.lst (rs.map encW) = D.lst (qs.map encW)) := Classical.propDecidable _
  unfold sEq
  rw [eqA_pl (pl_WL h) (pl_WL k)]
  have : decide (D.lst (rs.map encW) = D.lst (qs.map encW)) = b := by
    cases b with
    | true => exact decide_eq_true (by rw [hb.mpr rfl])
    | false =>
      refine decide_eq_false fun z => ?_
      have z : rs.map encW = qs.map encW := by simpa using z
      have : rs = qs := by
        have key : ∀ (a c : List Rw), a.map encW = c.map encW → a = c := by
          intro a
          induction a with
          | nil => intro c z; cases c with
            | nil => rfl
            | cons x c => cases z
          | cons x a ih => intro c z; cases c with
            | nil => cases z
            | cons y c =>
              rw [List.map_cons, List.map_cons] at z
              obtain ⟨z1, z2⟩ := List.cons.inj z
              rw [encW_inj z1, ih c z2]
        exact key rs qs z
      cases hb.mp this
  rw [this]
  rfl
def encB (p : Int × Str) : D := .tup [.int p.1, .str "begin", .str p.2]
theorem enc_begins (rs : List Rw) : ((rs.filter (·.b)).map fun r => D.tup [.int r.h, .str (wrd r.b), .str r.n]) = (begins rs).map encB := by
  unfold begins
  rw [List.map_map]
  refine List.map_congr_left fun r hr => ?_
  have := (List.mem_filter.mp hr).2
  have : r.b = true := this
  rw [this]
  rfl
theorem lay_B {rs : List Rw} (h : ∀ r ∈ rs, RowOk r) : Lay 60 (.lst ((begins rs).map encB)) := lay_list (n := 1) (by decide) fun p hp => by
  obtain ⟨r, hr, rfl⟩ := List.mem_map.mp hp
  refine lay_tup (n := 0) fun x hx => ?_
  simp only [encB, List.mem_cons, List.not_mem_nil, or_false] at hx
  rcases hx with rfl | rfl | rfl
  · exact lay_int _ _
  · exact lay_str _ (by decide +kernel)
  · exact lay_str _ (h r (List.mem_filter.mp hr).1).nm.2

theorem wrd_dec (b : Bool) : decide (wrd b = ("begin" : Str)) = b := by
  cases b <;> decide +kernel
theorem cut60 (xs : List D) : cutD xs none (some 60) = xs.take 60 := cut_to (k := 60)
theorem cut90 (xs : List D) : cutD xs none (some 90) = xs.take 90 := cut_to (k := 90)
theorem m_law (ns : List Int) (hl : ns.length ≤ 63) : sem_law [.scr ns] = .ret (.f (.bl true)) := by
  have h64 : (0 : Int) < 64 := by decide
  have h8 : (0 : Int) < 8 := by decide
  have h25 : (0 : Int) < 25 := by decide
  have h60 : (0 : Int) < 60 := by decide
  have h512 : (0 : Int) < 512 := by decide
  have h4' : (0 : Int) < 4 := by decide
  have h2 : (0 : Int) < 2 := by decide
  have h4096 : (0 : Int) < 4096 := by decide
  have zero : (0 : Nat) ≤ lineN := Nat.zero_le _
  have one : (1 : Nat) ≤ lineN := by decide
  have two : (2 : Nat) ≤ lineN := by decide
  have four : (4 : Nat) ≤ lineN := by decide
  unfold sem_law g_law
  push_cast [rg_ok (show -(2 ^ 62) ≤ max 1 (min 3 (ns.length : Int)) by omega) (show max 1 (min 3 (ns.length : Int)) < 2 ^ 62 by omega), rngL_map]
  refine fin_for (fun j : Nat => .int (0 + (j : Nat))) (fun pre post env => ∃ c1 c2 c3 c4 c5 c6 c7 c8 c9 c10, env = [.frz (.scr ns), c1, c2, c3, c4, c5, c6, c7, c8, c9, c10, .un, .un, .un]) _ _ ⟨_, _, _, _, _, _, _, _, _, _, rfl⟩ ?_ ?_
  · rintro pre j post env e ⟨c1, c2, c3, c4, c5, c6, c7, c8, c9, c10, rfl⟩
    refine ⟨_, rfl, ?_⟩
    obtain ⟨v, e1⟩ := m_cell ns j hl
    rw [show ((j : Nat) : Int) = 0 + (j : Nat) by omega] at e1
    obtain ⟨more, e2, _, _⟩ := m_drawn v (0 + (j : Nat))
    obtain ⟨hs, e3, Dr⟩ := m_trees (more / 64)
    have H := Dr.toHands
    obtain ⟨xs, mx, e4⟩ := m_mixed H more
    have m0' := Int.emod_nonneg more (show (25 : Int) ≠ 0 by decide)
    have m1' := Int.emod_lt_of_pos more h25
    push_cast [e1, e2, zero, e_mod h25, rg_ok (show -(2 ^ 62) ≤ more % 25 by omega) (show more % 25 < 2 ^ 62 by omega), rngL_map]
    refine forseq_wp (fun j : Nat => .int (0 + (j : Nat))) (fun preA postA env => ∃ rs c4 c5, env = [.frz (.scr ns), .frz (.int (0 + (j : Nat))), .frz (.int more), .own (.lst (rs.map encW)), c4, c5, c6, c7, c8, c9, c10, .un, .un, .un] ∧ (∀ r ∈ rs, RowOk r) ∧ rs.length = preA.length) _ _ ⟨[], _, _, rfl, by simp, rfl⟩ ?_ ?_
    · rintro preA i postA env eA ⟨rs, c4, c5, rfl, hok, hlen⟩
      refine ⟨_, rfl, ?_⟩
      obtain ⟨here, f1, g0, _⟩ := m_drawn more (30 + (0 + (i : Nat)))
      obtain ⟨nm, f2, hn⟩ := m_name (here / 4096)
      have hA := congrArg List.length eA
      rw [List.length_range, List.length_append, List.length_cons] at hA
      push_cast [f1, e_fdiv h8 (show (8 : Int).natAbs < 2 ^ 300 by decide), e_mod h60, e_fdiv h512 (show (512 : Int).natAbs < 2 ^ 300 by decide), e_mod h4', two, four, e_mod h2, ix_word, e_fdiv h4096 (show (4096 : Int).natAbs < 2 ^ 300 by decide), f2, List.length_map, sz_ok (show rs.length + 1 ≤ 16777216 by omega)]
      refine ⟨rs ++ [⟨here / 8 % 60, 1 + here / 512 % 4, decide (here % 2 = 0), nm⟩], _, _, by rw [List.map_append]; rfl, fun r hr => ?_, by rw [List.length_append, List.length_append, hlen]; rfl⟩
      rcases List.mem_append.mp hr with z | z
      · exact hok r z
      · rw [List.mem_singleton] at z
        subst z
        have a := Int.emod_nonneg (here / 8) (show (60 : Int) ≠ 0 by decide)
        have b := Int.emod_lt_of_pos (here / 8) h60
        have c := Int.emod_nonneg (here / 512) (show (4 : Int) ≠ 0 by decide)
        have d := Int.emod_lt_of_pos (here / 512) h4'
        exact ⟨a, by show here / 8 % 60 ≤ 1000000; omega, by show 1 ≤ 1 + here / 512 % 4; omega, by show 1 + here / 512 % 4 ≤ 4; omega, hn⟩
    · rintro env ⟨rs1, c4, c5, rfl, hok1, hlen1⟩
      have hok : ∀ r ∈ (xs.take 60 ++ rs1).take 90, RowOk r := fun r hr => by
        rcases List.mem_append.mp ((List.take_sublist _ _).subset hr) with z | z
        · exact mix_rows H mx r ((List.take_sublist _ _).subset z)
        · exact hok1 r z
      have hlen : ((xs.take 60 ++ rs1).take 90).length ≤ 90 := by rw [List.length_take]; omega
      have hl1 : rs1.length ≤ 25 := by
        rw [List.length_range] at hlen1
        omega
      have ecat := e_cat (xs := (xs.map encW).take 60) (ys := rs1.map encW) (by rw [List.length_take, List.length_map, List.length_map]; omega)
      have erow : ((xs.map encW).take 60 ++ rs1.map encW).take 90 = ((xs.take 60 ++ rs1).take 90).map encW := by rw [List.map_take, List.map_append, List.map_take]
      push_cast [e_fdiv h64 (show (64 : Int).natAbs < 2 ^ 300 by decide), e3, e4, cut60, ecat, cut90]
      rw [erow]
      generalize (xs.take 60 ++ rs1).take 90 = rs at hok hlen
      have k4 := In4.of hok
      have tok := mend_ok hok
      have tlen := mend_len hok
      have k4' := In4.of tok
      push_cast [m_mended hok (by omega), zero, m_hands hok (by omega)]
      refine forseq_wp D.int (fun preB postB env => ∃ du c6 c8 c9 c10, env = [.frz (.scr ns), .frz (.int (0 + (j : Nat))), .frz (.int more), .frz (.lst (rs.map encW)), c4, c5, c6, .own (.lst (du.map encI)), c8, c9, c10, .un, .un, .un] ∧ (c6 = .own (.lst ((mendL rs).map encW)) ∨ c6 = .frz (.lst ((mendL rs).map encW))) ∧ du.Perm (preB.flatMap fun h => allF (hfI h rs.zipIdx))) (sortI (rs.map (·.h))) _ ⟨[], _, _, _, _, rfl, .inl rfl, List.Perm.refl _⟩ ?_ ?_
      · rintro preB h postB env eB ⟨du, c6, c8, c9, c10, rfl, h6, hdu⟩
        refine ⟨_, rfl, ?_⟩
        have hm : h ∈ rs.map (·.h) := ((sortI_ok _).2 h).mp (by rw [eB]; simp)
        have hh4 : h ∈ h4 := by
          obtain ⟨r, hr, rfl⟩ := List.mem_map.mp hm
          exact k4 r hr
        have mok : ∀ r ∈ hf h rs, RowOk r := fun r hr => hok r (hf_sub r hr)
        have mlen : (hf h rs).length ≤ 90 := Nat.le_trans (List.length_filter_le _ _) hlen
        have Mlen : (hfI h rs.zipIdx).length = (hf h rs).length := by rw [← hfI_fst, List.length_map]
        have eM : ((hfI h rs.zipIdx).map fun p => encW p.1) = (hf h rs).map encW := by rw [← hfI_fst, List.map_map]; rfl
        have one' : sortI ((hf h rs).map (·.h)) = [h] := sortI_one (fun z => by
          obtain ⟨r, hr, e⟩ := List.mem_map.mp hm
          have : r ∈ hf h rs := List.mem_filter.mpr ⟨hr, by simpa using e⟩
          rw [List.map_eq_nil_iff.mp z] at this
          cases this) fun n hn => by
            obtain ⟨r, hr, rfl⟩ := List.mem_map.mp hn
            simpa using (List.mem_filter.mp hr).2
        have hB := congrArg List.length eB
        have hBl : (sortI (rs.map (·.h))).length ≤ 90 := by
          unfold sortI
          rw [(List.mergeSort_perm _ _).length_eq]
          exact Nat.le_trans (nub_len _) (by rw [List.length_map]; omega)
        rw [List.length_append, List.length_cons] at hB
        have hdl : du.length ≤ 540 * preB.length := by
          rw [hdu.length_eq]
          exact len_flat fun x _ => Nat.le_trans (allF_len _) (by have := List.length_filter_le (fun r : Rw × Nat => decide (r.1.h = x)) rs.zipIdx; rw [List.length_zipIdx] at this; show 6 * (hfI x rs.zipIdx).length ≤ 540; unfold hfI; omega)
        have hfl := ftL_len (hf h rs)
        have ixf : ∀ x ∈ ftL (hf h rs), sIx (.lst ((hfI h rs.zipIdx).map fun p => .int (p.2 : Nat))) (.int x.1) = some (.f (.int (plcG (hfI h rs.zipIdx) x.1))) := fun x hx => by
          obtain ⟨⟨i, hi, ei⟩, _⟩ := ftL_mem x hx
          rw [ei]
          exact ix_plc (by rw [Mlen]; exact hi)
        push_cast [zip_W]
        rw [lcL_gen (fun p : Rw × Nat => D.tup [.int (p.2 : Nat), encW p.1]) (fun p => decide (p.1.h = h)) (fun p => .int (p.2 : Nat)) _ rs.zipIdx rfl (fun p hp => ⟨rfl, by push_cast [w_enc], fun _ => rfl, rfl⟩) (by rw [List.length_zipIdx]; omega)]
        rw [show (rs.zipIdx.filter fun p => decide (p.1.h = h)) = hfI h rs.zipIdx from rfl]
        push_cast []
        rw [lcL_one (fun p : Rw × Nat => D.int (p.2 : Nat)) (fun p => encW p.1) (hfI h rs.zipIdx) rfl rfl (fun p hp => by push_cast [ix_zip (List.mem_filter.mp hp).1]) (by omega), eM]
        push_cast [m_faults mok (by omega)]
        rw [lcL_gen encI (fun _ => true) (fun x => .tup [.int (plcG (hfI h rs.zipIdx) x.1), .str x.2]) _ (ftL (hf h rs)) rfl (fun x hx => ⟨rfl, by rfl, fun _ => by push_cast [two, ixf x hx], rfl⟩) (by omega), List.filter_eq_self.mpr (fun _ _ => rfl)]
        have ecat := e_cat (xs := du.map encI) (ys := (ftL (hf h rs)).map fun x => D.tup [.int (plcG (hfI h rs.zipIdx) x.1), .str x.2]) (by rw [List.length_map, List.length_map]; omega)
        have edu : du.map encI ++ ((ftL (hf h rs)).map fun x => D.tup [.int (plcG (hfI h rs.zipIdx) x.1), .str x.2]) = (du ++ (ftL (hf h rs)).map fun x => (plcG (hfI h rs.zipIdx) x.1, x.2)).map encI := by rw [List.map_append, List.map_map]; rfl
        have hself := sNe_self (lay_WL (fun r hr => mend_ok mok r hr))
        have hmend : (mendL rs).filter (fun r => decide (r.h = h)) = mendL (hf h rs) := mend_hand k4 hh4
        have hone := sNe_self (d := .lst [.int h]) (lay_list (f := D.int) (l := [h]) (n := 0) (by decide) fun x _ => lay_int _ _)
        have hnext : (du ++ (ftL (hf h rs)).map fun x => (plcG (hfI h rs.zipIdx) x.1, x.2)).Perm ((preB ++ [h]).flatMap fun h => allF (hfI h rs.zipIdx)) := by
          rw [List.flatMap_append]
          refine hdu.append ?_
          rw [List.flatMap_cons, List.flatMap_nil, List.append_nil]
          exact ft_hand2 rs h
        push_cast [ecat]
        rw [edu]
        push_cast [m_mended mok (by omega)]
        rcases h6 with rfl | rfl
        · push_cast []
          rw [lcL_if encW (fun r => decide (r.h = h)) encW (mendL rs) rfl rfl (fun r hr => ⟨by push_cast [w_enc r], fun _ => rfl⟩) (by omega), hmend]
          push_cast [hself, m_hands mok (by omega), one', one, hone]
          exact ⟨_, _, _, _, _, rfl, .inr rfl, hnext⟩
        · push_cast []
          rw [lcL_if encW (fun r => decide (r.h = h)) encW (mendL rs) rfl rfl (fun r hr => ⟨by push_cast [w_enc r], fun _ => rfl⟩) (by omega), hmend]
          push_cast [hself, m_hands mok (by omega), one', one, hone]
          exact ⟨_, _, _, _, _, rfl, .inr rfl, hnext⟩
      · rintro env ⟨du, c6, c8, c9, c10, rfl, h6, hdu⟩
        have sk := sortI_ok (rs.map (·.h))
        have snd : (sortI (rs.map (·.h))).Nodup := sk.1.imp fun z => by omega
        have pall : (allF rs.zipIdx).Perm ((sortI (rs.map (·.h))).flatMap fun h => allF (hfI h rs.zipIdx)) := allF_hands snd (fun x hx => by
          obtain ⟨r, hr, rfl⟩ := List.mem_map.mp ((sk.2 x).mp hx)
          exact k4 r hr) fun p hp => (sk.2 _).mpr (List.mem_map.mpr ⟨p.1, List.fst_mem_of_mem_zipIdx hp, rfl⟩)
        have edue : ordW du = ftL rs := ordW_ext (hdu.trans pall.symm)
        have hf1 := sNe_self (d := .lst ((ftL rs).map encI)) (lay_list (n := 1) (by decide) fun x hx => lay_w4 (ftL_mem x hx).2)
        have ht1 := sNe_self (lay_WL tok)
        have hnil : sNe (.lst ([] : List D)) (.lst []) = some (.f (.bl false)) := sNe_self ⟨.list [], rfl, rfl, by decide⟩
        have hB := sNe_self (lay_B hok)
        have hq := sEq_nilL (xs := (ftL rs).map encI) (lay_list (n := 1) (by decide) fun x hx => lay_w4 (ftL_mem x hx).2)
        rw [List.isEmpty_map] at hq
        have hw := eq_WL tok hok (ftL rs).isEmpty (by rw [List.isEmpty_iff]; exact mend_same k4 k4')
        have hbb : sNe (.bl (ftL rs).isEmpty) (.bl (ftL rs).isEmpty) = some (.f (.bl false)) := sNe_self (lay_bl _ _)
        have hmm := m_mended tok (by omega)
        rw [mend_twice k4] at hmm
        have hff := m_faults tok (by omega)
        rw [mend_fine k4 k4', List.map_nil] at hff
        have fin : ∀ c6 : Cell, (c6 = .own (.lst ((mendL rs).map encW)) ∨ c6 = .frz (.lst ((mendL rs).map encW))) → True := fun _ _ => trivial
        rcases h6 with rfl | rfl
        · push_cast [e_sortedW, edue, m_faults hok (by omega), hf1, hmm, ht1, hff, zero, hnil]
          rw [lcL_if encW (fun r => r.b) (fun r => D.tup [.int r.h, .str (wrd r.b), .str r.n]) (mendL rs) rfl rfl (fun r hr => ⟨by push_cast [w_enc r, wrd_dec], fun _ => by push_cast [w_enc r, cut_tail, List.tail_cons]⟩) (by omega), enc_begins, mend_begins]
          push_cast []
          rw [lcL_if encW (fun r => r.b) (fun r => D.tup [.int r.h, .str (wrd r.b), .str r.n]) rs rfl rfl (fun r hr => ⟨by push_cast [w_enc r, wrd_dec], fun _ => by push_cast [w_enc r, cut_tail, List.tail_cons]⟩) (by omega), enc_begins]
          push_cast [hB, hw, m_faults hok (by omega), zero, hq, hbb]
          exact ⟨_, _, _, _, _, _, _, _, _, _, rfl⟩
        · push_cast [e_sortedW, edue, m_faults hok (by omega), hf1, hmm, ht1, hff, zero, hnil]
          rw [lcL_if encW (fun r => r.b) (fun r => D.tup [.int r.h, .str (wrd r.b), .str r.n]) (mendL rs) rfl rfl (fun r hr => ⟨by push_cast [w_enc r, wrd_dec], fun _ => by push_cast [w_enc r, cut_tail, List.tail_cons]⟩) (by omega), enc_begins, mend_begins]
          push_cast []
          rw [lcL_if encW (fun r => r.b) (fun r => D.tup [.int r.h, .str (wrd r.b), .str r.n]) rs rfl rfl (fun r hr => ⟨by push_cast [w_enc r, wrd_dec], fun _ => by push_cast [w_enc r, cut_tail, List.tail_cons]⟩) (by omega), enc_begins]
          push_cast [hB, hw, m_faults hok (by omega), zero, hq, hbb]
          exact ⟨_, _, _, _, _, _, _, _, _, _, rfl⟩
  · rintro env ⟨c1, c2, c3, c4, c5, c6, c7, c8, c9, c10, rfl⟩
    push_cast []

end DL

namespace DL
open PySem PySem.Spec PyProof.Rows L2
def top (i : Nat) : Stmt := PySem.Challenge.pw_calltimes_k11_whole_hands_by_themselves.main.body.getD i (.Pass ⟨0, 0, 0, 0⟩)
abbrev s_is_count : Stmt := top 9
def d_is_count : He.DefD := ⟨("is_count", none), "is_count", "is_count", defArgs s_is_count, defBody s_is_count, defScope s_is_count, [], []⟩
abbrev s_is_name : Stmt := top 10
def d_is_name : He.DefD := ⟨("is_name", none), "is_name", "is_name", defArgs s_is_name, defBody s_is_name, defScope s_is_name, [], []⟩
abbrev s_is_row : Stmt := top 11
def d_is_row : He.DefD := ⟨("is_row", none), "is_row", "is_row", defArgs s_is_row, defBody s_is_row, defScope s_is_row, [], []⟩
abbrev s_need_rows : Stmt := top 12
def d_need_rows : He.DefD := ⟨("need_rows", none), "need_rows", "need_rows", defArgs s_need_rows, defBody s_need_rows, defScope s_need_rows, [], []⟩
abbrev s_faults_of : Stmt := top 13
def d_faults_of : He.DefD := ⟨("faults_of", none), "faults_of", "faults_of", defArgs s_faults_of, defBody s_faults_of, defScope s_faults_of, [], []⟩
abbrev s_faults : Stmt := top 14
def d_faults : He.DefD := ⟨("faults", none), "faults", "faults", defArgs s_faults, defBody s_faults, defScope s_faults, [], []⟩
abbrev s_inner_place : Stmt := top 15
def d_inner_place : He.DefD := ⟨("inner_place", none), "inner_place", "inner_place", defArgs s_inner_place, defBody s_inner_place, defScope s_inner_place, [], []⟩
abbrev s_mended_of : Stmt := top 16
def d_mended_of : He.DefD := ⟨("mended_of", none), "mended_of", "mended_of", defArgs s_mended_of, defBody s_mended_of, defScope s_mended_of, [], []⟩
abbrev s_mended : Stmt := top 17
def d_mended : He.DefD := ⟨("mended", none), "mended", "mended", defArgs s_mended, defBody s_mended, defScope s_mended, [], []⟩
abbrev s_hands : Stmt := top 18
def d_hands : He.DefD := ⟨("hands", none), "hands", "hands", defArgs s_hands, defBody s_hands, defScope s_hands, [], []⟩
abbrev s_law_cell : Stmt := top 20
def d_law_cell : He.DefD := ⟨("_law_cell", none), "_law_cell", "_law_cell", defArgs s_law_cell, defBody s_law_cell, defScope s_law_cell, [], []⟩
abbrev s_law_drawn : Stmt := top 21
def d_law_drawn : He.DefD := ⟨("_law_drawn", none), "_law_drawn", "_law_drawn", defArgs s_law_drawn, defBody s_law_drawn, defScope s_law_drawn, [], []⟩
abbrev s_law_name : Stmt := top 22
def d_law_name : He.DefD := ⟨("_law_name", none), "_law_name", "_law_name", defArgs s_law_name, defBody s_law_name, defScope s_law_name, [], []⟩
abbrev s_law_calls : Stmt := top 23
def d_law_calls : He.DefD := ⟨("_law_calls", none), "_law_calls", "_law_calls", defArgs s_law_calls, defBody s_law_calls, defScope s_law_calls, [], []⟩
abbrev s_law_trees : Stmt := top 24
def d_law_trees : He.DefD := ⟨("_law_trees", none), "_law_trees", "_law_trees", defArgs s_law_trees, defBody s_law_trees, defScope s_law_trees, [], []⟩
abbrev s_law_lines : Stmt := top 25
def d_law_lines : He.DefD := ⟨("_law_lines", none), "_law_lines", "_law_lines", defArgs s_law_lines, defBody s_law_lines, defScope s_law_lines, [], []⟩
abbrev s_law_mixed : Stmt := top 26
def d_law_mixed : He.DefD := ⟨("_law_mixed", none), "_law_mixed", "_law_mixed", defArgs s_law_mixed, defBody s_law_mixed, defScope s_law_mixed, [], []⟩
abbrev s_law : Stmt := top 27
def d_law : He.DefD := ⟨("law", none), "law", "law", defArgs s_law, defBody s_law, defScope s_law, [], []⟩
def fn : List He.DefD := [d_is_count, d_is_name, d_is_row, d_need_rows, d_faults_of, d_faults, d_inner_place, d_mended_of, d_mended, d_hands, d_law_cell, d_law_drawn, d_law_name, d_law_calls, d_law_trees, d_law_lines, d_law_mixed, d_law]
def fa : List He.Fa := [.glo "is_count", .glo "is_name", .glo "is_row", .glo "need_rows", .glo "faults_of", .glo "faults", .glo "inner_place", .glo "mended_of", .glo "mended", .glo "hands", .glo "_law_cell", .glo "_law_drawn", .glo "_law_name", .glo "_law_calls", .glo "_law_trees", .glo "_law_lines", .glo "_law_mixed", .glo "law", .int "MOST_TICK" 1000000, .int "MOST_HAND" 4, .int "MOST_ROWS" 200, .int "MOST_NAME" 8, .str "SMALL" "abcdefghijklmnopqrstuvwxyz", .free "ValueError", .free "all", .free "bool", .free "enumerate", .free "int", .free "isinstance", .free "len", .free "list", .free "max", .free "min", .free "range", .free "set", .free "sorted", .free "str", .free "tuple"]
def loose : List Str := (["CallError", "BadRows", "MOST_TICK", "MOST_HAND", "MOST_ROWS", "MOST_NAME", "SMALL", "is_count", "is_name", "is_row", "need_rows", "faults_of", "faults", "inner_place", "mended_of", "mended", "hands", "_law_cell", "_law_drawn", "_law_name", "_law_calls", "_law_trees", "_law_lines", "_law_mixed"] : List Str)
abbrev DefF (K : PySem.W.Frag) (mg : Str → Option Value) (x : Str) (st : Stmt) (ps : List Str) : Prop := ∃ f fd, FunD K x x (defArgs st) (defBody st) (defScope st) [] [] f fd ∧ mg x = some (.ref f) ∧ Binds K fd ps []
structure Tx [TabCtx] (P : Program) (w : World) (K : PySem.W.Frag) (mg : Str → Option Value) (base : Heap) (ca : Str → Addr) : Prop where
  b_ValueError : mg "ValueError" = none
  b_all : mg "all" = none
  b_bool : mg "bool" = none
  b_enumerate : mg "enumerate" = none
  b_int : mg "int" = none
  b_isinstance : mg "isinstance" = none
  b_len : mg "len" = none
  b_list : mg "list" = none
  b_max : mg "max" = none
  b_min : mg "min" = none
  b_range : mg "range" = none
  b_set : mg "set" = none
  b_sorted : mg "sorted" = none
  b_str : mg "str" = none
  b_tuple : mg "tuple" = none
  c_MOST_TICK : ∃ t, mg "MOST_TICK" = some (.int 1000000 t)
  c_MOST_HAND : ∃ t, mg "MOST_HAND" = some (.int 4 t)
  c_MOST_ROWS : ∃ t, mg "MOST_ROWS" = some (.int 200 t)
  c_MOST_NAME : ∃ t, mg "MOST_NAME" = some (.int 8 t)
  c_SMALL : ∃ t, mg "SMALL" = some (.str "abcdefghijklmnopqrstuvwxyz" t)
  d_is_count : DefF K mg "is_count" s_is_count ["thing", "low", "high"]
  d_is_name : DefF K mg "is_name" s_is_name ["thing"]
  d_is_row : DefF K mg "is_row" s_is_row ["thing"]
  d_need_rows : DefF K mg "need_rows" s_need_rows ["rows"]
  d_faults_of : DefF K mg "faults_of" s_faults_of ["rows"]
  d_faults : DefF K mg "faults" s_faults ["rows"]
  d_inner_place : DefF K mg "inner_place" s_inner_place ["stack", "name"]
  d_mended_of : DefF K mg "mended_of" s_mended_of ["rows"]
  d_mended : DefF K mg "mended" s_mended ["rows"]
  d_hands : DefF K mg "hands" s_hands ["rows"]
  d_law_cell : DefF K mg "_law_cell" s_law_cell ["script", "k"]
  d_law_drawn : DefF K mg "_law_drawn" s_law_drawn ["cell", "k"]
  d_law_name : DefF K mg "_law_name" s_law_name ["more"]
  d_law_calls : DefF K mg "_law_calls" s_law_calls ["more", "low", "high", "deep"]
  d_law_trees : DefF K mg "_law_trees" s_law_trees ["more"]
  d_law_lines : DefF K mg "_law_lines" s_law_lines ["hand", "calls"]
  d_law_mixed : DefF K mg "_law_mixed" s_law_mixed ["trees_here", "more"]
  d_law : DefF K mg "law" s_law ["script"]
section
variable [TabCtx] {P : Program} {w : World} {K : PySem.W.Frag} {mg : Str → Option Value} {base : Heap} {ca : Str → Addr}
abbrev N_is_count : List Str := ["thing", "low", "high"]
theorem sc_is_count : FnScope N_is_count ["thing", "low", "high"] (defScope s_is_count) := ⟨rfl, rfl, rfl, by decide +kernel, rfl, by decide +kernel, by decide +kernel⟩
theorem ok_is_count (T : Tx P w K mg base ca) : FnN P w K mg base ca "is_count" 1 3 sem_is_count := by
  obtain ⟨f, fd, Fd, hm, hb⟩ := T.d_is_count
  refine fn_ok Fd sc_is_count hm hb g_is_count (fun cdv A outer s H E hr => ?_)
  exact db_one (ds_ret (de_and (de_isi "int" rfl rfl T.b_isinstance rfl T.b_int bt_isinstance bt_int (de_var 0 rfl (Or.inl rfl))) (de_and (de_not (de_isi "bool" rfl rfl T.b_isinstance rfl T.b_bool bt_isinstance bt_bool (de_var 0 rfl (Or.inl rfl)))) (de_one (de_chain op_le op_le (de_var 1 rfl (Or.inl rfl)) (de_var 0 rfl (Or.inl rfl)) (de_var 2 rfl (Or.inl rfl)) (by with_unfolding_all rfl))))))
abbrev N_is_name : List Str := ["thing", "sign"]
theorem sc_is_name : FnScope N_is_name ["thing"] (defScope s_is_name) := ⟨rfl, rfl, rfl, by decide +kernel, rfl, by decide +kernel, by decide +kernel⟩
theorem ok_is_name (T : Tx P w K mg base ca) : FnN P w K mg base ca "is_name" 1 1 sem_is_name := by
  obtain ⟨f, fd, Fd, hm, hb⟩ := T.d_is_name
  refine fn_ok Fd sc_is_name hm hb g_is_name (fun cdv A outer s H E hr => ?_)
  exact db_one (ds_ret (de_and (de_isi "str" rfl rfl T.b_isinstance rfl T.b_str bt_isinstance bt_str (de_var 0 rfl (Or.inl rfl))) (de_and (de_chain op_le op_le (de_int) (de_b1 call_lenA v_len rfl T.b_len bt_len (de_var 0 rfl (Or.inl rfl))) (de_gint rfl T.c_MOST_NAME) (by with_unfolding_all rfl)) (de_one (de_b1 (cr_all rfl) v_all rfl T.b_all bt_all (de_lc rfl sc_is_name.nd (own := [(("sign" : Str), 1)]) (ok := (blkOk_by (own := [(("sign" : Str), 1)]) (N := N_is_name) (sc := defScope s_is_name) (by decide +kernel))) (di_any (de_var 0 rfl (Or.inl rfl))) (by decide) (fun _ _ _ _ _ => dg_name 1 sc_is_name.nd rfl (Or.inl rfl)) (fun _ _ _ _ _ => dts_nil) (fun _ _ _ _ _ => de_cmp (op_in2 (room66 hr)) v_in2 (de_var 1 rfl (Or.inl rfl)) (de_gstr rfl T.c_SMALL) (by rfl))))))))
abbrev N_is_row : List Str := ["thing"]
theorem sc_is_row : FnScope N_is_row ["thing"] (defScope s_is_row) := ⟨rfl, rfl, rfl, by decide +kernel, rfl, by decide +kernel, by decide +kernel⟩
theorem ok_is_row (T : Tx P w K mg base ca) : FnN P w K mg base ca "is_row" 2 1 sem_is_row := by
  obtain ⟨f, fd, Fd, hm, hb⟩ := T.d_is_row
  refine fn_ok Fd sc_is_row hm hb g_is_row (fun cdv A outer s H E hr => ?_)
  exact db_cons (ds_if (DW.dt (dw_or (dt_not (dt_val (de_isi "tuple" rfl rfl T.b_isinstance rfl T.b_tuple bt_isinstance bt_tuple (de_var 0 rfl (Or.inl rfl))))) (dw_or (dt_cmp (op_ne2 (room66 hr)) v_ne2 (de_b1 call_lenA v_len rfl T.b_len bt_len (de_var 0 rfl (Or.inl rfl))) (de_int) (nomark _)) (dw_or1 (dt_not (dt_val (de_call (ok_is_count T) (hr.mono (by decide)) rfl pass_body (da_cons (DE.df (de_ixR (ix_D (hu_of hr)) v_ix (de_var 0 rfl (Or.inl rfl)) (de_int) (fun _ _ => rfl))) (da_cons (DE.df (de_int)) (da_cons (DE.df (de_gint rfl T.c_MOST_TICK)) (da_nil))))))))))) (db_one (ds_ret (de_bl))) (db_nil)) (db_one (ds_ret (de_and (de_call (ok_is_count T) (hr.mono (by decide)) rfl pass_body (da_cons (DE.df (de_ixR (ix_D (hu_of hr)) v_ix (de_var 0 rfl (Or.inl rfl)) (de_int) (fun _ _ => rfl))) (da_cons (DE.df (de_int)) (da_cons (DE.df (de_gint rfl T.c_MOST_HAND)) (da_nil))))) (de_and (de_cmp (op_in2 (room66 hr)) v_in2 (de_ixR (ix_D (hu_of hr)) v_ix (de_var 0 rfl (Or.inl rfl)) (de_int) (fun _ _ => rfl)) (de_tup (da_cons (DE.df (de_str)) (da_cons (DE.df (de_str)) (da_nil)))) (by rfl)) (de_one (de_call (ok_is_name T) (hr.mono (by decide)) rfl pass_body (da_cons (DE.df (de_ixR (ix_D (hu_of hr)) v_ix (de_var 0 rfl (Or.inl rfl)) (de_int) (fun _ _ => rfl))) (da_nil))))))))
abbrev N_need_rows : List Str := ["rows", "row"]
theorem sc_need_rows : FnScope N_need_rows ["rows"] (defScope s_need_rows) := ⟨rfl, rfl, rfl, by decide +kernel, rfl, by decide +kernel, by decide +kernel⟩
theorem ok_need_rows (T : Tx P w K mg base ca) : FnN P w K mg base ca "need_rows" 3 1 sem_need_rows := by
  obtain ⟨f, fd, Fd, hm, hb⟩ := T.d_need_rows
  refine fn_ok Fd sc_need_rows hm hb g_need_rows (fun cdv A outer s H E hr => ?_)
  exact db_one (ds_if (DW.dt (dw_or (dt_not (dt_val (de_isi "list" rfl rfl T.b_isinstance rfl T.b_list bt_isinstance bt_list (de_var 0 rfl (Or.inl rfl))))) (dw_or (dt_cmp op_gt (v_cmp fGt) (de_b1 call_lenA v_len rfl T.b_len bt_len (de_var 0 rfl (Or.inl rfl))) (de_gint rfl T.c_MOST_ROWS) (nomark _)) (dw_or1 (dt_not (dt_val (de_b1 (cr_all rfl) v_all rfl T.b_all bt_all (de_lc rfl sc_need_rows.nd (own := [(("row" : Str), 1)]) (ok := (blkOk_by (own := [(("row" : Str), 1)]) (N := N_need_rows) (sc := defScope s_need_rows) (by decide +kernel))) (di_any (de_var 0 rfl (Or.inl rfl))) (by decide) (fun _ _ _ _ _ => dg_name 1 sc_need_rows.nd rfl (Or.inl rfl)) (fun _ _ _ _ _ => dts_nil) (fun _ _ _ _ _ => de_call (ok_is_row T) (hr.mono (by decide)) rfl pass_blk (da_cons (DE.df (de_var 1 rfl (Or.inl rfl))) (da_nil))))))))))) (db_one (ds_never)) (db_nil))
abbrev N_faults_of : List Str := ["rows", "last", "stacks", "found", "at", "tick", "hand", "word", "name", "stack"]
theorem sc_faults_of : FnScope N_faults_of ["rows"] (defScope s_faults_of) := ⟨rfl, rfl, rfl, by decide +kernel, rfl, by decide +kernel, by decide +kernel⟩
theorem ok_faults_of (T : Tx P w K mg base ca) : FnN P w K mg base ca "faults_of" 1 1 sem_faults_of := by
  obtain ⟨f, fd, Fd, hm, hb⟩ := T.d_faults_of
  refine fn_ok Fd sc_faults_of hm hb g_faults_of (fun cdv A outer s H E hr => ?_)
  exact db_cons (ds_par3 1 2 3 rfl sc_faults_of.nd rfl rfl rfl (by decide) (by decide) (by decide) rfl rfl rfl (de_dK) (de_dK) (de_lst (da_nil)) (by rfl)) (db_cons (ds_for own_body rfl (di_enum rfl T.b_enumerate (de_var 0 rfl (Or.inl rfl))) (dg_tup rfl (dgs_cons (dg_name 4 sc_faults_of.nd rfl (Or.inl rfl)) (dgs_cons (dg_tup rfl (dgs_cons (dg_name 5 sc_faults_of.nd rfl (Or.inl rfl)) (dgs_cons (dg_name 6 sc_faults_of.nd rfl (Or.inl rfl)) (dgs_cons (dg_name 7 sc_faults_of.nd rfl (Or.inl rfl)) (dgs_cons (dg_name 8 sc_faults_of.nd rfl (Or.inl rfl)) (dgs_nil))))) (tCons'_len (tCons'_len (tCons'_len (tCons'_len (tNil'_len)))))) (dgs_nil))) (tCons'_len (tCons'_len (tNil'_len)))) (db_cons (ds_set 9 sc_faults_of.nd rfl (Or.inl rfl) (de_get (hu_of hr) (de_var 2 rfl (Or.inl rfl)) (de_var 6 rfl (Or.inl rfl)) (de_lst (da_nil)) ⟨rfl, rfl, rfl, rfl⟩)) (db_cons (ds_if (dt_cmp op_ltD v_lt (de_var 5 rfl (Or.inl rfl)) (de_get (hu_of hr) (de_var 1 rfl (Or.inl rfl)) (de_var 6 rfl (Or.inl rfl)) (de_int) ⟨rfl, rfl, rfl, rfl⟩) (nomark _)) (db_one (ds_expr (de_append 3 rfl (Or.inl rfl) (DE.df (de_tup (da_cons (DE.df (de_var 4 rfl (Or.inl rfl))) (da_cons (DE.df (de_str)) (da_nil)))))))) (db_nil)) (db_cons (ds_put 1 (hu_of hr) rfl (Or.inl rfl) (DE.df (de_var 6 rfl (Or.inl rfl))) (DE.df (de_b2 (call_max2 rfl) v_max2 rfl T.b_max bt_max (de_var 5 rfl (Or.inl rfl)) (de_get (hu_of hr) (de_var 1 rfl (Or.inl rfl)) (de_var 6 rfl (Or.inl rfl)) (de_int) ⟨rfl, rfl, rfl, rfl⟩))) (by rfl) (by rfl) (by rfl) (by rfl) (by intro _; rfl)) (db_one (ds_if (dt_cmp (op_eq2 (room66 hr)) v_eq2 (de_var 7 rfl (Or.inl rfl)) (de_str) (nomark _)) (db_one (ds_put 2 (hu_of hr) rfl (Or.inl rfl) (DE.df (de_var 6 rfl (Or.inl rfl))) (DE.df (de_op op_addD v_add (de_var 9 rfl (Or.inl rfl)) (de_lst (da_cons (DE.df (de_tup (da_cons (DE.df (de_var 4 rfl (Or.inl rfl))) (da_cons (DE.df (de_var 8 rfl (Or.inl rfl))) (da_nil))))) (da_nil))))) (by rfl) (by rfl) (by rfl) (by rfl) (by intro _; rfl))) (db_one (ds_if (dt_cmp (op_eq2 (room66 hr)) v_eq2 (de_var 9 rfl (Or.inl rfl)) (de_lst (da_nil)) (nomark _)) (db_one (ds_expr (de_append 3 rfl (Or.inl rfl) (DE.df (de_tup (da_cons (DE.df (de_var 4 rfl (Or.inl rfl))) (da_cons (DE.df (de_str)) (da_nil)))))))) (db_one (ds_if (dt_cmp (op_ne2 (room66 hr)) v_ne2 (de_ixR (ix_D (hu_of hr)) v_ix (de_ixR (ix_D (hu_of hr)) v_ix (de_var 9 rfl (Or.inl rfl)) (de_un un_neg v_neg (de_int)) (fun _ _ => rfl)) (de_int) (fun _ _ => rfl)) (de_var 8 rfl (Or.inl rfl)) (nomark _)) (db_one (ds_expr (de_append 3 rfl (Or.inl rfl) (DE.df (de_tup (da_cons (DE.df (de_var 4 rfl (Or.inl rfl))) (da_cons (DE.df (de_str)) (da_nil)))))))) (db_one (ds_put 2 (hu_of hr) rfl (Or.inl rfl) (DE.df (de_var 6 rfl (Or.inl rfl))) (DE.df (de_slice (de_var 9 rfl (Or.inl rfl)) (do_none) (do_some (de_un un_neg v_neg (de_int))))) (by rfl) (by rfl) (by rfl) (by rfl) (by intro _; rfl))))))))))))) (db_cons (ds_for own_body rfl (di_any (de_var 2 rfl (Or.inl rfl))) (dg_name 6 sc_faults_of.nd rfl (Or.inl rfl)) (db_one (ds_expr (de_extend 3 rfl (Or.inl rfl) (DE.dp (de_lc rfl sc_faults_of.nd (own := [(("at" : Str), 4), (("name" : Str), 8)]) (ok := (blkOk_by (own := [(("at" : Str), 4), (("name" : Str), 8)]) (N := N_faults_of) (sc := defScope s_faults_of) (by decide +kernel))) (di_any (de_ixR (ix_D (hu_of hr)) v_ix (de_var 2 rfl (Or.inl rfl)) (de_var 6 rfl (Or.inl rfl)) (fun _ _ => rfl))) (by decide) (fun _ _ _ _ _ => dg_tup rfl (dgs_cons (dg_name 4 sc_faults_of.nd rfl (Or.inl rfl)) (dgs_cons (dg_name 8 sc_faults_of.nd rfl (Or.inl rfl)) (dgs_nil))) (tCons'_len (tCons'_len (tNil'_len)))) (fun _ _ _ _ _ => dts_nil) (fun _ _ _ _ _ => de_tup (da_cons (DE.df (de_var 4 rfl (Or.inl rfl))) (da_cons (DE.df (de_str)) (da_nil)))))))))) (db_one (ds_ret (de_b1 (cr_sort2 hr.units rfl) v_sort2 rfl T.b_sorted bt_sorted (de_var 3 rfl (Or.inl rfl)))))))
abbrev N_faults : List Str := ["rows"]
theorem sc_faults : FnScope N_faults ["rows"] (defScope s_faults) := ⟨rfl, rfl, rfl, by decide +kernel, rfl, by decide +kernel, by decide +kernel⟩
theorem ok_faults (T : Tx P w K mg base ca) : FnN P w K mg base ca "faults" 4 1 sem_faults := by
  obtain ⟨f, fd, Fd, hm, hb⟩ := T.d_faults
  refine fn_ok Fd sc_faults hm hb g_faults (fun cdv A outer s H E hr => ?_)
  exact db_cons (ds_expr (de_call (ok_need_rows T) (hr.mono (by decide)) rfl pass_body (da_cons (DE.df (de_var 0 rfl (Or.inl rfl))) (da_nil)))) (db_one (ds_ret (de_call (ok_faults_of T) (hr.mono (by decide)) rfl pass_body (da_cons (DE.df (de_var 0 rfl (Or.inl rfl))) (da_nil)))))
abbrev N_inner_place : List Str := ["stack", "name", "found", "at", "own"]
theorem sc_inner_place : FnScope N_inner_place ["stack", "name"] (defScope s_inner_place) := ⟨rfl, rfl, rfl, by decide +kernel, rfl, by decide +kernel, by decide +kernel⟩
theorem ok_inner_place (T : Tx P w K mg base ca) : FnN P w K mg base ca "inner_place" 1 2 sem_inner_place := by
  obtain ⟨f, fd, Fd, hm, hb⟩ := T.d_inner_place
  refine fn_ok Fd sc_inner_place hm hb g_inner_place (fun cdv A outer s H E hr => ?_)
  exact db_cons (ds_setLc 2 (own := [(("at" : Str), 3), (("own" : Str), 4)]) rfl sc_inner_place.nd rfl rfl (sw_true rfl rfl rfl (by decide +kernel)) (blkOk_by (own := [(("at" : Str), 3), (("own" : Str), 4)]) (N := N_inner_place) (sc := defScope s_inner_place) (by decide +kernel)) (di_enum rfl T.b_enumerate (de_var 0 rfl (Or.inl rfl))) (by decide) (fun _ _ _ _ _ => dg_tup rfl (dgs_cons (dg_name 3 sc_inner_place.nd rfl (Or.inl rfl)) (dgs_cons (dg_name 4 sc_inner_place.nd rfl (Or.inl rfl)) (dgs_nil))) (tCons'_len (tCons'_len (tNil'_len)))) (fun _ _ _ _ _ => dts_one (dt_cmp (op_eq2 (room66 hr)) v_eq2 (de_var 4 rfl (Or.inl rfl)) (de_var 1 rfl (Or.inr (Or.inl rfl))) (nomark _))) (fun _ _ _ _ _ => de_var 3 rfl (Or.inl rfl))) (db_one (ds_ret (de_if (dt_cmp (op_ne2 (room66 hr)) v_ne2 (de_var 2 rfl (Or.inl rfl)) (de_lst (da_nil)) (nomark _)) (de_ixR (ix_D (hu_of hr)) v_ix (de_var 2 rfl (Or.inl rfl)) (de_un un_neg v_neg (de_int)) (fun _ _ => rfl)) (de_non))))
abbrev N_mended_of : List Str := ["rows", "last", "stacks", "found", "tick", "hand", "word", "name", "stack", "place", "own"]
theorem sc_mended_of : FnScope N_mended_of ["rows"] (defScope s_mended_of) := ⟨rfl, rfl, rfl, by decide +kernel, rfl, by decide +kernel, by decide +kernel⟩
theorem ok_mended_of (T : Tx P w K mg base ca) : FnN P w K mg base ca "mended_of" 2 1 sem_mended_of := by
  obtain ⟨f, fd, Fd, hm, hb⟩ := T.d_mended_of
  refine fn_ok Fd sc_mended_of hm hb g_mended_of (fun cdv A outer s H E hr => ?_)
  exact db_cons (ds_par3T 1 2 3 rfl sc_mended_of.nd rfl rfl rfl (by decide) (by decide) (by decide) (Or.inr rfl) (Or.inl rfl) (Or.inl rfl) (Or.inl rfl) (Or.inl rfl) (Or.inl rfl) (de_dK) (de_dK) (de_lst (da_nil)) (by rfl)) (db_cons (ds_for own_body rfl (di_any (de_var 0 rfl (Or.inl rfl))) (dg_tup rfl (dgs_cons (dg_name 4 sc_mended_of.nd rfl (Or.inr rfl)) (dgs_cons (dg_name 5 sc_mended_of.nd rfl (Or.inr rfl)) (dgs_cons (dg_name 6 sc_mended_of.nd rfl (Or.inl rfl)) (dgs_cons (dg_name 7 sc_mended_of.nd rfl (Or.inl rfl)) (dgs_nil))))) (tCons'_len (tCons'_len (tCons'_len (tCons'_len (tNil'_len)))))) (db_cons (ds_set 4 sc_mended_of.nd rfl (Or.inr rfl) (de_b2 (call_max2 rfl) v_max2 rfl T.b_max bt_max (de_var 4 rfl (Or.inr (Or.inl rfl))) (de_get (hu_of hr) (de_var 1 rfl (Or.inr (Or.inl rfl))) (de_var 5 rfl (Or.inr (Or.inl rfl))) (de_int) ⟨rfl, rfl, rfl, rfl⟩))) (db_cons (ds_put 1 (hu_of hr) rfl (Or.inr (Or.inl rfl)) (DE.df (de_var 5 rfl (Or.inr (Or.inl rfl)))) (DE.df (de_var 4 rfl (Or.inr (Or.inl rfl)))) (by rfl) (by rfl) (by rfl) (by rfl) (by intro _; rfl)) (db_cons (ds_set 8 sc_mended_of.nd rfl (Or.inl rfl) (de_get (hu_of hr) (de_var 2 rfl (Or.inl rfl)) (de_var 5 rfl (Or.inr (Or.inl rfl))) (de_lst (da_nil)) ⟨rfl, rfl, rfl, rfl⟩)) (db_cons (ds_if (dt_cmp (op_eq2 (room66 hr)) v_eq2 (de_var 6 rfl (Or.inl rfl)) (de_str) (nomark _)) (db_cons (ds_expr (de_append 3 rfl (Or.inl rfl) (DE.df (de_tup (da_cons (DE.df (de_var 4 rfl (Or.inr (Or.inl rfl)))) (da_cons (DE.df (de_var 5 rfl (Or.inr (Or.inl rfl)))) (da_cons (DE.df (de_var 6 rfl (Or.inl rfl))) (da_cons (DE.df (de_var 7 rfl (Or.inl rfl))) (da_nil))))))))) (db_cons (ds_put 2 (hu_of hr) rfl (Or.inl rfl) (DE.df (de_var 5 rfl (Or.inr (Or.inl rfl)))) (DE.df (de_op op_addD v_add (de_var 8 rfl (Or.inl rfl)) (de_lst (da_cons (DE.df (de_var 7 rfl (Or.inl rfl))) (da_nil))))) (by rfl) (by rfl) (by rfl) (by rfl) (by intro _; rfl)) (db_one (ds_continue)))) (db_nil)) (db_cons (ds_set 9 sc_mended_of.nd rfl (Or.inl rfl) (de_call (ok_inner_place T) (hr.mono (by decide)) rfl pass_body (da_cons (DE.df (de_var 8 rfl (Or.inl rfl))) (da_cons (DE.df (de_var 7 rfl (Or.inl rfl))) (da_nil))))) (db_one (ds_if (dt_cmp op_notN v_isNot (de_var 9 rfl (Or.inl rfl)) (de_non) (nomark _)) (db_cons (ds_expr (de_extend 3 rfl (Or.inl rfl) (DE.dp (de_lc rfl sc_mended_of.nd (own := [(("own" : Str), 10)]) (ok := (blkOk_by (own := [(("own" : Str), 10)]) (N := N_mended_of) (sc := defScope s_mended_of) (by decide +kernel))) (di_any (de_rev2 (de_slice (de_var 8 rfl (Or.inl rfl)) (do_some (de_var 9 rfl (Or.inl rfl))) (do_none)))) (by decide) (fun _ _ _ _ _ => dg_name 10 sc_mended_of.nd rfl (Or.inl rfl)) (fun _ _ _ _ _ => dts_nil) (fun _ _ _ _ _ => de_tup (da_cons (DE.df (de_var 4 rfl (Or.inr (Or.inl rfl)))) (da_cons (DE.df (de_var 5 rfl (Or.inr (Or.inl rfl)))) (da_cons (DE.df (de_str)) (da_cons (DE.df (de_var 10 rfl (Or.inl rfl))) (da_nil)))))))))) (db_one (ds_put 2 (hu_of hr) rfl (Or.inl rfl) (DE.df (de_var 5 rfl (Or.inr (Or.inl rfl)))) (DE.df (de_slice (de_var 8 rfl (Or.inl rfl)) (do_none) (do_some (de_var 9 rfl (Or.inl rfl))))) (by rfl) (by rfl) (by rfl) (by rfl) (by intro _; rfl)))) (db_nil))))))))) (db_cons (ds_for own_body rfl (di_any (de_b1 (cr_sort2 hr.units rfl) v_sort2 rfl T.b_sorted bt_sorted (de_var 2 rfl (Or.inl rfl)))) (dg_name 5 sc_mended_of.nd rfl (Or.inr rfl)) (db_one (ds_expr (de_extend 3 rfl (Or.inl rfl) (DE.dp (de_lc rfl sc_mended_of.nd (own := [(("name" : Str), 7)]) (ok := (blkOk_by (own := [(("name" : Str), 7)]) (N := N_mended_of) (sc := defScope s_mended_of) (by decide +kernel))) (di_any (de_rev2 (de_ixR (ix_D (hu_of hr)) v_ix (de_var 2 rfl (Or.inl rfl)) (de_var 5 rfl (Or.inr (Or.inl rfl))) (fun _ _ => rfl)))) (by decide) (fun _ _ _ _ _ => dg_name 7 sc_mended_of.nd rfl (Or.inl rfl)) (fun _ _ _ _ _ => dts_nil) (fun _ _ _ _ _ => de_tup (da_cons (DE.df (de_ixR (ix_D (hu_of hr)) v_ix (de_var 1 rfl (Or.inr (Or.inl rfl))) (de_var 5 rfl (Or.inr (Or.inl rfl))) (fun _ _ => rfl))) (da_cons (DE.df (de_var 5 rfl (Or.inr (Or.inl rfl)))) (da_cons (DE.df (de_str)) (da_cons (DE.df (de_var 7 rfl (Or.inl rfl))) (da_nil)))))))))))) (db_one (ds_ret (de_var 3 rfl (Or.inl rfl))))))
abbrev N_mended : List Str := ["rows"]
theorem sc_mended : FnScope N_mended ["rows"] (defScope s_mended) := ⟨rfl, rfl, rfl, by decide +kernel, rfl, by decide +kernel, by decide +kernel⟩
theorem ok_mended (T : Tx P w K mg base ca) : FnN P w K mg base ca "mended" 4 1 sem_mended := by
  obtain ⟨f, fd, Fd, hm, hb⟩ := T.d_mended
  refine fn_ok Fd sc_mended hm hb g_mended (fun cdv A outer s H E hr => ?_)
  exact db_cons (ds_expr (de_call (ok_need_rows T) (hr.mono (by decide)) rfl pass_body (da_cons (DE.df (de_var 0 rfl (Or.inl rfl))) (da_nil)))) (db_one (ds_ret (de_call (ok_mended_of T) (hr.mono (by decide)) rfl pass_body (da_cons (DE.df (de_var 0 rfl (Or.inl rfl))) (da_nil)))))
abbrev N_hands : List Str := ["rows", "row"]
theorem sc_hands : FnScope N_hands ["rows"] (defScope s_hands) := ⟨rfl, rfl, rfl, by decide +kernel, rfl, by decide +kernel, by decide +kernel⟩
theorem ok_hands (T : Tx P w K mg base ca) : FnN P w K mg base ca "hands" 4 1 sem_hands := by
  obtain ⟨f, fd, Fd, hm, hb⟩ := T.d_hands
  refine fn_ok Fd sc_hands hm hb g_hands (fun cdv A outer s H E hr => ?_)
  exact db_cons (ds_expr (de_call (ok_need_rows T) (hr.mono (by decide)) rfl pass_body (da_cons (DE.df (de_var 0 rfl (Or.inl rfl))) (da_nil)))) (db_one (ds_ret (de_sortSet rfl rfl rfl hr.units T.b_sorted T.b_set (de_lc rfl sc_hands.nd (own := [(("row" : Str), 1)]) (ok := (blkOk_by (own := [(("row" : Str), 1)]) (N := N_hands) (sc := defScope s_hands) (by decide +kernel))) (di_any (de_var 0 rfl (Or.inl rfl))) (by decide) (fun _ _ _ _ _ => dg_name 1 sc_hands.nd rfl (Or.inl rfl)) (fun _ _ _ _ _ => dts_nil) (fun _ _ _ _ _ => de_ixR (ix_D (hu_of hr)) v_ix (de_var 1 rfl (Or.inl rfl)) (de_int) (fun _ _ => rfl))))))
abbrev N_law_cell : List Str := ["script", "k"]
theorem sc_law_cell : FnScope N_law_cell ["script", "k"] (defScope s_law_cell) := ⟨rfl, rfl, rfl, by decide +kernel, rfl, by decide +kernel, by decide +kernel⟩
theorem ok_law_cell (T : Tx P w K mg base ca) : FnN P w K mg base ca "_law_cell" 1 2 sem_law_cell := by
  obtain ⟨f, fd, Fd, hm, hb⟩ := T.d_law_cell
  refine fn_ok Fd sc_law_cell hm hb g_law_cell (fun cdv A outer s H E hr => ?_)
  exact db_cons (ds_if (dt_cmp (op_eq2 (room66 hr)) v_eq2 (de_var 0 rfl (Or.inl rfl)) (de_lst (da_nil)) (nomark _)) (db_one (ds_ret (de_op op_mulD v_mul (de_var 1 rfl (Or.inl rfl)) (de_int)))) (db_nil)) (db_one (ds_ret (de_op op_addD v_add (de_ixR (ix_D (hu_of hr)) v_ix (de_var 0 rfl (Or.inl rfl)) (de_op op_mod v_mod (de_var 1 rfl (Or.inl rfl)) (de_b1 call_lenA v_len rfl T.b_len bt_len (de_var 0 rfl (Or.inl rfl)))) (fun _ _ => rfl)) (de_op op_mulD v_mul (de_op op_fdivW v_fdiv (de_var 1 rfl (Or.inl rfl)) (de_b1 call_lenA v_len rfl T.b_len bt_len (de_var 0 rfl (Or.inl rfl)))) (de_int)))))
abbrev N_law_drawn : List Str := ["cell", "k", "more"]
theorem sc_law_drawn : FnScope N_law_drawn ["cell", "k"] (defScope s_law_drawn) := ⟨rfl, rfl, rfl, by decide +kernel, rfl, by decide +kernel, by decide +kernel⟩
theorem ok_law_drawn (T : Tx P w K mg base ca) : FnN P w K mg base ca "_law_drawn" 1 2 sem_law_drawn := by
  obtain ⟨f, fd, Fd, hm, hb⟩ := T.d_law_drawn
  refine fn_ok Fd sc_law_drawn hm hb g_law_drawn (fun cdv A outer s H E hr => ?_)
  exact db_cons (ds_set 2 sc_law_drawn.nd rfl (Or.inl rfl) (de_op op_mod v_mod (de_op op_addD v_add (de_op op_mulD v_mul (de_var 0 rfl (Or.inl rfl)) (de_int)) (de_op op_mulD v_mul (de_op op_addD v_add (de_var 1 rfl (Or.inl rfl)) (de_int)) (de_int))) (de_int))) (db_cons (ds_set 2 sc_law_drawn.nd rfl (Or.inl rfl) (de_op op_mod v_mod (de_op op_mulD v_mul (de_var 2 rfl (Or.inl rfl)) (de_var 2 rfl (Or.inl rfl))) (de_int))) (db_cons (ds_set 2 sc_law_drawn.nd rfl (Or.inl rfl) (de_op op_mulD v_mul (de_op op_mulD v_mul (de_op op_addD v_add (de_op op_mod v_mod (de_var 2 rfl (Or.inl rfl)) (de_int)) (de_int)) (de_op op_addD v_add (de_op op_fdivW v_fdiv (de_var 2 rfl (Or.inl rfl)) (de_int)) (de_int))) (de_var 2 rfl (Or.inl rfl)))) (db_one (ds_ret (de_op op_mod v_mod (de_var 2 rfl (Or.inl rfl)) (de_int))))))
abbrev N_law_name : List Str := ["more"]
theorem sc_law_name : FnScope N_law_name ["more"] (defScope s_law_name) := ⟨rfl, rfl, rfl, by decide +kernel, rfl, by decide +kernel, by decide +kernel⟩
theorem ok_law_name (T : Tx P w K mg base ca) : FnN P w K mg base ca "_law_name" 1 1 sem_law_name := by
  obtain ⟨f, fd, Fd, hm, hb⟩ := T.d_law_name
  refine fn_ok Fd sc_law_name hm hb g_law_name (fun cdv A outer s H E hr => ?_)
  exact db_one (ds_ret (de_ixR (ix_D (hu_of hr)) v_ix (de_lst (da_cons (DE.df (de_str)) (da_cons (DE.df (de_str)) (da_cons (DE.df (de_str)) (da_cons (DE.df (de_str)) (da_cons (DE.df (de_str)) (da_cons (DE.df (de_str)) (da_nil)))))))) (de_op op_mod v_mod (de_op op_fdivW v_fdiv (de_var 0 rfl (Or.inl rfl)) (de_int)) (de_int)) (fun _ _ => rfl)))
abbrev N_law_calls : List Str := ["more", "low", "high", "deep", "found", "here", "j", "one", "first", "last"]
theorem sc_law_calls : FnScope N_law_calls ["more", "low", "high", "deep"] (defScope s_law_calls) := ⟨rfl, rfl, rfl, by decide +kernel, rfl, by decide +kernel, by decide +kernel⟩
theorem ok_law_calls (T : Tx P w K mg base ca) : ∀ n : Nat, FnN P w K mg base ca "_law_calls" (1 + n) 4 (sem_law_calls n)
  | 0 => by
    obtain ⟨f, fd, Fd, hm, hb⟩ := T.d_law_calls
    exact FnN.zero _ _ hm Fd.kp hb
  | n + 1 => by
    have ih := ok_law_calls T n
    obtain ⟨f, fd, Fd, hm, hb⟩ := T.d_law_calls
    refine fn_ok Fd sc_law_calls hm hb (g_law_calls (sem_law_calls n)) (fun cdv A outer s H E hr => ?_)
    exact db_cons (ds_par2 4 5 rfl sc_law_calls.nd rfl rfl (by decide) rfl rfl (de_lst (da_nil)) (de_var 1 rfl (Or.inl rfl)) (by rfl)) (db_cons (ds_for own_body rfl (di_range1 rfl T.b_range (de_if (dt_cmp op_gt (v_cmp fGt) (de_var 3 rfl (Or.inl rfl)) (de_int) (nomark _)) (de_op op_mod v_mod (de_var 0 rfl (Or.inl rfl)) (de_int)) (de_int))) (dg_name 6 sc_law_calls.nd rfl (Or.inl rfl)) (db_cons (ds_set 7 sc_law_calls.nd rfl (Or.inl rfl) (de_call (ok_law_drawn T) (hr.mono (Nat.le_trans (by decide : 1 ≤ 1) (Nat.le_add_right _ _))) rfl pass_body (da_cons (DE.df (de_var 0 rfl (Or.inl rfl))) (da_cons (DE.df (de_var 6 rfl (Or.inl rfl))) (da_nil))))) (db_cons (ds_set 8 sc_law_calls.nd rfl (Or.inl rfl) (de_op op_addD v_add (de_var 5 rfl (Or.inl rfl)) (de_op op_mod v_mod (de_op op_fdivW v_fdiv (de_var 7 rfl (Or.inl rfl)) (de_int)) (de_ixR (ix_D (hu_of hr)) v_ix (de_lst (da_cons (DE.df (de_int)) (da_cons (DE.df (de_int)) (da_cons (DE.df (de_int)) (da_nil))))) (de_op op_mod v_mod (de_var 7 rfl (Or.inl rfl)) (de_int)) (fun _ _ => rfl))))) (db_cons (ds_set 9 sc_law_calls.nd rfl (Or.inl rfl) (de_op op_addD v_add (de_var 8 rfl (Or.inl rfl)) (de_op op_mod v_mod (de_op op_fdivW v_fdiv (de_var 7 rfl (Or.inl rfl)) (de_int)) (de_ixR (ix_D (hu_of hr)) v_ix (de_lst (da_cons (DE.df (de_int)) (da_cons (DE.df (de_int)) (da_cons (DE.df (de_int)) (da_cons (DE.df (de_int)) (da_nil)))))) (de_op op_mod v_mod (de_op op_fdivW v_fdiv (de_var 7 rfl (Or.inl rfl)) (de_int)) (de_int)) (fun _ _ => rfl))))) (db_one (ds_if (dt_cmp op_le (v_cmp fLe) (de_var 9 rfl (Or.inl rfl)) (de_var 2 rfl (Or.inl rfl)) (nomark _)) (db_cons (ds_expr (de_append 4 rfl (Or.inl rfl) (DE.df (de_tup (da_cons (DE.df (de_call (ok_law_name T) (hr.mono (Nat.le_trans (by decide : 1 ≤ 1) (Nat.le_add_right _ _))) rfl pass_body (da_cons (DE.df (de_op op_fdivW v_fdiv (de_var 7 rfl (Or.inl rfl)) (de_int))) (da_nil)))) (da_cons (DE.df (de_var 8 rfl (Or.inl rfl))) (da_cons (DE.df (de_var 9 rfl (Or.inl rfl))) (da_cons (DE.df (de_call ih hr rfl pass_body (da_cons (DE.df (de_call (ok_law_drawn T) (hr.mono (Nat.le_trans (by decide : 1 ≤ 1) (Nat.le_add_right _ _))) rfl pass_body (da_cons (DE.df (de_var 7 rfl (Or.inl rfl))) (da_cons (DE.df (de_int)) (da_nil))))) (da_cons (DE.df (de_var 8 rfl (Or.inl rfl))) (da_cons (DE.df (de_var 9 rfl (Or.inl rfl))) (da_cons (DE.df (de_op op_sub v_sub (de_var 3 rfl (Or.inl rfl)) (de_int))) (da_nil))))))) (da_nil))))))))) (db_one (ds_set 5 sc_law_calls.nd rfl (Or.inl rfl) (de_var 9 rfl (Or.inl rfl))))) (db_nil))))))) (db_one (ds_ret (de_t1 call_tuple_of v_tupleOf rfl T.b_tuple bt_tuple (de_var 4 rfl (Or.inl rfl))))))
abbrev N_law_trees : List Str := ["more", "found", "hand", "here", "calls"]
theorem sc_law_trees : FnScope N_law_trees ["more"] (defScope s_law_trees) := ⟨rfl, rfl, rfl, by decide +kernel, rfl, by decide +kernel, by decide +kernel⟩
theorem ok_law_trees (T : Tx P w K mg base ca) : FnN P w K mg base ca "_law_trees" 8 1 sem_law_trees := by
  obtain ⟨f, fd, Fd, hm, hb⟩ := T.d_law_trees
  refine fn_ok Fd sc_law_trees hm hb g_law_trees (fun cdv A outer s H E hr => ?_)
  exact db_cons (ds_set 1 sc_law_trees.nd rfl (Or.inl rfl) (de_dK)) (db_cons (ds_for own_body rfl (di_range2 rfl T.b_range (de_int) (de_int)) (dg_name 2 sc_law_trees.nd rfl (Or.inl rfl)) (db_cons (ds_set 3 sc_law_trees.nd rfl (Or.inl rfl) (de_call (ok_law_drawn T) (hr.mono (by decide)) rfl pass_body (da_cons (DE.df (de_var 0 rfl (Or.inl rfl))) (da_cons (DE.df (de_op op_addD v_add (de_int) (de_var 2 rfl (Or.inl rfl)))) (da_nil))))) (db_cons (ds_set 4 sc_law_trees.nd rfl (Or.inl rfl) (de_call (ok_law_calls T 6) (hr.mono (by decide)) rfl pass_body (da_cons (DE.df (de_op op_fdivW v_fdiv (de_var 3 rfl (Or.inl rfl)) (de_int))) (da_cons (DE.df (de_op op_mod v_mod (de_var 3 rfl (Or.inl rfl)) (de_int))) (da_cons (DE.df (de_op op_addD v_add (de_int) (de_op op_mod v_mod (de_op op_fdivW v_fdiv (de_var 3 rfl (Or.inl rfl)) (de_int)) (de_int)))) (da_cons (DE.df (de_int)) (da_nil))))))) (db_one (ds_if (DW.dt (dw_and (dt_cmp (op_ne2 (room66 hr)) v_ne2 (de_var 4 rfl (Or.inl rfl)) (de_tup (da_nil)) (nomark _)) (dw_and1 (dt_cmp op_gt (v_cmp fGt) (de_op op_mod v_mod (de_var 3 rfl (Or.inl rfl)) (de_int)) (de_int) (nomark _))))) (db_one (ds_put 1 (hu_of hr) rfl (Or.inl rfl) (DE.df (de_var 2 rfl (Or.inl rfl))) (DE.df (de_var 4 rfl (Or.inl rfl))) (by rfl) (by rfl) (by rfl) (by rfl) (by intro _; rfl))) (db_nil)))))) (db_one (ds_ret (de_var 1 rfl (Or.inl rfl)))))
abbrev N_law_lines : List Str := ["hand", "calls", "found", "name", "first", "last", "inner"]
theorem sc_law_lines : FnScope N_law_lines ["hand", "calls"] (defScope s_law_lines) := ⟨rfl, rfl, rfl, by decide +kernel, rfl, by decide +kernel, by decide +kernel⟩
theorem ok_law_lines (T : Tx P w K mg base ca) : ∀ n : Nat, FnN P w K mg base ca "_law_lines" (0 + n) 2 (sem_law_lines n)
  | 0 => by
    obtain ⟨f, fd, Fd, hm, hb⟩ := T.d_law_lines
    exact FnN.zero _ _ hm Fd.kp hb
  | n + 1 => by
    have ih := ok_law_lines T n
    obtain ⟨f, fd, Fd, hm, hb⟩ := T.d_law_lines
    refine fn_ok Fd sc_law_lines hm hb (g_law_lines (sem_law_lines n)) (fun cdv A outer s H E hr => ?_)
    exact db_cons (ds_set 2 sc_law_lines.nd rfl (Or.inl rfl) (de_lst (da_nil))) (db_cons (ds_for own_body rfl (di_any (de_var 1 rfl (Or.inl rfl))) (dg_tup rfl (dgs_cons (dg_name 3 sc_law_lines.nd rfl (Or.inl rfl)) (dgs_cons (dg_name 4 sc_law_lines.nd rfl (Or.inl rfl)) (dgs_cons (dg_name 5 sc_law_lines.nd rfl (Or.inl rfl)) (dgs_cons (dg_name 6 sc_law_lines.nd rfl (Or.inl rfl)) (dgs_nil))))) (tCons'_len (tCons'_len (tCons'_len (tCons'_len (tNil'_len)))))) (db_one (ds_set 2 sc_law_lines.nd rfl (Or.inl rfl) (de_op op_addD v_add (de_op op_addD v_add (de_op op_addD v_add (de_var 2 rfl (Or.inl rfl)) (de_lst (da_cons (DE.df (de_tup (da_cons (DE.df (de_var 4 rfl (Or.inl rfl))) (da_cons (DE.df (de_var 0 rfl (Or.inl rfl))) (da_cons (DE.df (de_str)) (da_cons (DE.df (de_var 3 rfl (Or.inl rfl))) (da_nil))))))) (da_nil)))) (de_call ih hr rfl pass_body (da_cons (DE.df (de_var 0 rfl (Or.inl rfl))) (da_cons (DE.df (de_var 6 rfl (Or.inl rfl))) (da_nil))))) (de_lst (da_cons (DE.df (de_tup (da_cons (DE.df (de_var 5 rfl (Or.inl rfl))) (da_cons (DE.df (de_var 0 rfl (Or.inl rfl))) (da_cons (DE.df (de_str)) (da_cons (DE.df (de_var 3 rfl (Or.inl rfl))) (da_nil))))))) (da_nil))))))) (db_one (ds_ret (de_var 2 rfl (Or.inl rfl)))))
abbrev N_law_mixed : List Str := ["trees_here", "more", "rows", "found", "turn", "some", "hand", "row"]
theorem sc_law_mixed : FnScope N_law_mixed ["trees_here", "more"] (defScope s_law_mixed) := ⟨rfl, rfl, rfl, by decide +kernel, rfl, by decide +kernel, by decide +kernel⟩
theorem ok_law_mixed (T : Tx P w K mg base ca) : FnN P w K mg base ca "_law_mixed" 7 2 sem_law_mixed := by
  obtain ⟨f, fd, Fd, hm, hb⟩ := T.d_law_mixed
  refine fn_hand (k := 6) Fd sc_law_mixed hm hb sem_law_mixed (mix_nx _ _) (fun cdv A outer s H E hr F ds vs Z r sF t hn hq hrt => ?_)
  obtain ⟨td, more, hs, ls0, xs, rfl, e1, e2, e3, e4, rfl⟩ := mix_ok hq
  have R : Rs K H F [] [.frz td, .frz more, .un, .un, .un, .un, .un, .un] F (start N_law_mixed vs) H := start_rs (N := N_law_mixed) sF t rfl
  have q0 : giA (g1 sSort2 (gV 0)) [.frz td, .frz more, .un, .un, .un, .un, .un, .un] = .ok hs [.frz td, .frz more, .un, .un, .un, .un, .un, .un] := by
    rw [e_giA, e_gSet, e_g1]
    show ((outR _ (sSort2 td)).bind _).bind _ = _
    rw [e1]
    rfl
  refine PSs.sem (pss_cons ps_sem pss_sem) ?_
  refine ts_setLc (W := DL.WE ca E) 2 (own := [(("hand" : Str), 6)]) rfl sc_law_mixed.nd rfl rfl (sw_true rfl rfl rfl (by decide +kernel)) (blkOk_by (own := [(("hand" : Str), 6)]) (N := N_law_mixed) (sc := defScope s_law_mixed) (by decide +kernel)) ?_ (by decide) (fun _ _ _ _ _ => dg_name 6 sc_law_mixed.nd rfl (Or.inl rfl)) R q0 rfl
    (fun rest ts acc => ∃ as ls1 ls2, ts = pz as ls1 ∧ as.length = ls1.length ∧ acc = as.map D.adr ∧ ls0 = ls1 ++ ls2 ∧ mixRows (sem_law_lines 6) td rest = some ls2) ⟨[], [], ls0, rfl, rfl, rfl, rfl, e2⟩ (fun d rest ts acc hI => ?_) (fun ts acc F1 σ1 H1 hI R1 => ?_)
  · exact di_any (de_b1 (cr_sort2 hr.units rfl) v_sort2 rfl T.b_sorted bt_sorted (de_var 0 rfl (Or.inr (Or.inl rfl))))
  · obtain ⟨as, ls1, ls2, rfl, hl, rfl, hls, hgo⟩ := hI
    obtain ⟨c, l, ls', i1, i2, i3, rfl⟩ := mixRows_cons hgo
    refine ⟨[.frz td, .frz more, .un, .un, .un, .un, .frz d, .un], rfl, rfl, true, ?_, (fun z => by cases z), fun _ => ⟨decide_eq_true (by have := congrArg List.length hls; rw [List.length_append, List.length_cons] at this; rw [List.length_map]; omega), ?_⟩⟩
    · intro s' H' C cl fp F1 L F2 σ2 H2 Q R2 p
      exact (dts_nil (W := W0)) H F1 _ _ F2 σ2 H2 Q R2 p
    · intro s' H' C cl fp F1 L F2 σ2 H2 Q R2 p
      refine DE.run (W := W0) (g := gCall (sem_law_lines 6) 2 (gaC (gSet (gV 6)) (gaC (gSet (g2 sIx (gV 0) (gV 6))) (gaN)))) ?_ R2 ?_
      · exact de_call (ok_law_lines T 6) (hr.mono (by decide)) rfl pass_blk (da_cons (DE.df (de_var 6 rfl (Or.inl rfl))) (da_cons (DE.df (de_ixR (ix_D (hu_of hr)) v_ix (de_var 0 rfl (Or.inr (Or.inl rfl))) (de_var 6 rfl (Or.inl rfl)) (fun _ _ => rfl))) (da_nil)))
      rw [mix_ln i1 i2]
      rintro v F3 H3 R3 ⟨a, rfl, _⟩ s3
      have R3 : Rs K H F1 ((a, .lst l) :: (L, .lst (as.map D.adr)) :: pz as ls1) [.frz td, .frz more, .un, .un, .un, .un, .frz d, .un] F3 σ2 H3 := R3
      refine p (.ref a) (.adr a) (pz (as ++ [a]) (ls1 ++ [l])) F3 H3 (R3.perm ?_) rfl s3 ⟨as ++ [a], ls1 ++ [l], ls', rfl, by rw [List.length_append, List.length_append, hl]; rfl, by rw [List.map_append]; rfl, by rw [hls, List.append_assoc]; rfl, i3⟩
      rw [pz_app hl]
      refine (List.Perm.swap _ _ _).trans (List.Perm.cons _ ?_)
      exact (List.perm_append_comm (l₁ := [(a, D.lst l)]) (l₂ := pz as ls1))
  · obtain ⟨as, ls1, ls2, rfl, hl, rfl, hls, hgo⟩ := hI
    cases hgo
    rw [List.append_nil] at hls
    subst hls
    have R1 : Rs K H F (pz as ls0) [.frz td, .frz more, .own (.lst (as.map D.adr)), .un, .un, .un, .un, .un] F1 σ1 H1 := R1
    refine PSs.sem (pss_cons ps_sem pss_sem) ?_
    refine DS.ts (W := DL.WE ca E) (ds_par2 3 4 rfl sc_law_mixed.nd rfl rfl (by decide) rfl rfl (de_lst (da_nil)) (de_int) (by rfl)) R1 rfl fun F2 σ2 H2 R2 => ?_
    have R2 : Rs K H F (pz as ls0) [.frz td, .frz more, .own (.lst (as.map D.adr)), .own (.lst []), .frz (.int 0), .un, .un, .un] F2 σ2 H2 := R2
    obtain ⟨F3, R3⟩ := R2.giveLoc (i := 2) rfl
    have R3 : Rs K H F (pz as ls0) [.frz td, .frz more, .frz (.lst (as.map D.adr)), .own (.lst []), .frz (.int 0), .un, .un, .un] F3 σ2 H2 := R3
    refine PSs.sem (pss_cons ps_sem pss_sem) ?_
    refine PS.sem (ps_while own_body pt_sem pss_sem) ⟨fun m σ H' => ∃ ls found turn c5 F', as.length = ls.length ∧ Rs K H F (pz as ls) [.frz td, .frz more, .frz (.lst (as.map D.adr)), .own (.lst found), .frz (.int (turn : Nat)), c5, .un, .un] F' σ H' ∧ mixGo sem_law_drawn more m ls turn found = some xs ∧ found.length + m ≤ 4096, ⟨4096, ls0, [], 0, _, F3, hl, R3, e4, by rw [List.length_nil]; omega⟩, ?_⟩
    rintro m σ4 H4 ⟨ls, found, turn, c5, F4, hl4, R4, hgo, hb4⟩
    cases m with
    | zero => cases hgo
    | succ m =>
      obtain ⟨fine, hgo⟩ := mixGo_step hgo
      obtain ⟨env', q1⟩ := mix_t2 fine
      obtain ⟨v2, ev2, a2, vs2, rfl, eF2, t2⟩ := R4.cells 2 _ rfl
      have hpz : ∀ {as : List Addr} {ls : List (List D)} {ts : List (Addr × D)}, as.length = ls.length → (∀ p ∈ pz as ls, p ∈ ts) → ∀ vs, DvL K F4 (as.map D.adr) vs → (∀ a xs, (a, D.lst xs) ∈ ts → Dv K (inT (pz as ls) H4 F4) (.lst xs) (.ref a)) → True := fun _ _ _ _ _ => trivial
      have dvl : ∀ (as' : List Addr) (ls' : List (List D)) (vs : List V), as'.length = ls'.length → (∀ p ∈ pz as' ls', p ∈ pz as ls) → DvL K F4 (as'.map D.adr) vs → DvL K (inT (pz as ls) H4 F4) (ls'.map D.lst) vs := by
        intro as'
        induction as' with
        | nil =>
          intro ls' vs hl' _ hv
          rw [List.length_nil] at hl'
          rw [List.eq_nil_of_length_eq_zero hl'.symm]
          exact hv
        | cons a as' ih =>
          intro ls' vs hl' hp hv
          match ls', hl' with
          | l :: ls', hl' =>
            obtain ⟨v, r, rfl, hv1, hv2⟩ := hv
            have hv1 : v = .ref a := hv1
            subst hv1
            exact ⟨_, r, rfl, R4.lookL (hp _ List.mem_cons_self), ih ls' r (by simpa using hl') (fun p hp' => hp p (List.mem_cons_of_mem _ hp')) hv2⟩
      have V := R4.vw (i := 2) (d := .lst (ls.map D.lst)) ev2 ⟨a2, vs2, rfl, R4.lookF.1 _ _ eF2, dvl as ls vs2 hl4 (fun p hp => hp) t2⟩
      refine view_t (W := DL.WE ca E) (dt_cmp (op_ne2 (room66 hr)) v_ne2 (de_lc rfl sc_law_mixed.nd (own := [(("row" : Str), 7)]) (ok := (blkOk_by (own := [(("row" : Str), 7)]) (N := N_law_mixed) (sc := defScope s_law_mixed) (by decide +kernel))) (di_any (de_var 2 rfl (Or.inl rfl))) (by decide) (fun _ _ _ _ _ => dg_name 7 sc_law_mixed.nd rfl (Or.inl rfl)) (fun _ _ _ _ _ => dts_one (dt_cmp (op_ne2 (room66 hr)) v_ne2 (de_var 7 rfl (Or.inl rfl)) (de_lst (da_nil)) (nomark _))) (fun _ _ _ _ _ => de_var 7 rfl (Or.inl rfl))) (de_lst (da_nil)) (nomark _)) R4 V q1 fun H5 R5 => ?_
      rcases hgo with ⟨hem, rfl⟩ | ⟨hem, r, d, ls', g1', g2', g3'⟩
      · rw [hem]
        rw [if_neg (by decide)]
        refine PSs.sem (pss_one ps_sem) ?_
        exact ds_ret (W := DL.WE ca E) (g := gV 3) (de_var 3 rfl (Or.inl rfl)) H F _ F4 σ4 H5 Z R5.drop_ hrt
      · rw [hem]
        rw [if_pos (by decide)]
        refine ⟨fun σ' H' => ∃ ls found turn c5 F', as.length = ls.length ∧ Rs K H F (pz as ls) [.frz td, .frz more, .frz (.lst (as.map D.adr)), .own (.lst found), .frz (.int (turn : Nat)), c5, .un, .un] F' σ' H' ∧ mixGo sem_law_drawn more m ls turn found = some xs ∧ found.length + m ≤ 4096, fun σ' H' h => ⟨m, Nat.lt_succ_self _, h⟩, ?_⟩
        refine PSs.sem (pss_cons ps_sem pss_sem) ?_
        refine ts_setLc (W := DL.WE ca E) 5 (own := [(("row" : Str), 7)]) rfl sc_law_mixed.nd rfl rfl (sw_true rfl rfl rfl (by decide +kernel)) (blkOk_by (own := [(("row" : Str), 7)]) (N := N_law_mixed) (sc := defScope s_law_mixed) (by decide +kernel)) (di_any (de_var 2 rfl (Or.inl rfl))) (by decide) (fun _ _ _ _ _ => dg_name 7 sc_law_mixed.nd rfl (Or.inl rfl)) R5 (ds := as.map D.adr) rfl rfl
          (fun rest ts acc => ts = pz as ls ∧ ∃ as1 ls1 as2 ls2, as = as1 ++ as2 ∧ ls = ls1 ++ ls2 ∧ as1.length = ls1.length ∧ rest = as2.map D.adr ∧ acc = (bsOf as1 ls1).map D.adr) ⟨rfl, [], [], as, ls, rfl, rfl, rfl, rfl, rfl⟩ (fun d' rest ts acc hI => ?_) (fun ts acc F6 σ6 H6 hI R6 => ?_)
        · obtain ⟨rfl, as1, ls1, as2, ls2, ha, hls, hl1, hrest, rfl⟩ := hI
          match as2, hrest with
          | a :: as2, hrest =>
            rw [List.map_cons] at hrest
            obtain ⟨rfl, rfl⟩ := List.cons.inj hrest
            have hl2 : (a :: as2).length = ls2.length := by
              have h1 := congrArg List.length ha
              have h2 := congrArg List.length hls
              rw [List.length_append] at h1 h2
              omega
            match ls2, hl2 with
            | l :: ls2, hl2 =>
              have hmem : (a, D.lst l) ∈ pz as ls := by
                rw [ha, hls, pz_app hl1]
                exact List.mem_append_right _ List.mem_cons_self
              have hne : neNil l = true := by
                unfold mixFine at fine
                rw [Bool.and_eq_true, Bool.and_eq_true] at fine
                exact List.all_eq_true.mp fine.1.2 l (by rw [hls]; simp)
              have hlen : ls.length ≤ 1000 := by
                unfold mixFine at fine
                rw [Bool.and_eq_true, Bool.and_eq_true] at fine
                exact of_decide_eq_true fine.1.1
              refine ⟨[.frz td, .frz more, .frz (.lst (as.map D.adr)), .own (.lst found), .frz (.int (turn : Nat)), c5, .un, .frz (.adr a)], rfl, rfl, full l, ?_, fun hf => ?_, fun hf => ⟨?_, ?_⟩⟩
              · intro s' H' C cl fp F1' L F7 σ7 H7 Q R7 p
                obtain ⟨v7, ev7, hv7⟩ := R7.cells 7 _ rfl
                have hv7 : v7 = .ref a := hv7
                subst hv7
                have V7 := R7.vw (i := 7) (d := .lst l) ev7 (R7.lookL (List.mem_cons_of_mem _ hmem))
                exact view_ts (W := W0) (dts_one (dt_cmp (op_ne2 (room66 hr)) v_ne2 (de_var 7 rfl (Or.inl rfl)) (de_lst (da_nil)) (nomark _))) R7 V7 (mix_t1 hne) fun H8 R8 => p F7 H8 R8 (.refl _)
              · refine ⟨rfl, as1 ++ [a], ls1 ++ [l], as2, ls2, by rw [ha, List.append_assoc]; rfl, by rw [hls, List.append_assoc]; rfl, by rw [List.length_append, List.length_append, hl1]; rfl, rfl, ?_⟩
                rw [bs_app hl1]
                cases l with
                | nil => rw [show bsOf [a] [[]] = [] from rfl, List.append_nil]
                | cons x l => cases hf
              · have := bs_length as1 ls1 hl1
                have h2 := List.length_filter_le full ls1
                have h3 := congrArg List.length hls
                rw [List.length_append, List.length_cons] at h3
                refine decide_eq_true ?_
                rw [List.length_map]
                omega
              · intro s' H' C cl fp F1' L F7 σ7 H7 Q R7 p
                refine (de_var (W := W0) 7 rfl (Or.inl rfl)) H F1' _ _ F7 σ7 H7 Q R7 ?_
                show PoE K W0 H F1' _ F7 σ7 Q (.ok (.frz (.adr a)) _)
                intro v F8 H8 R8 h8 s8
                refine p v (.adr a) _ F8 H8 R8 h8 s8 ⟨rfl, as1 ++ [a], ls1 ++ [l], as2, ls2, by rw [ha, List.append_assoc]; rfl, by rw [hls, List.append_assoc]; rfl, by rw [List.length_append, List.length_append, hl1]; rfl, rfl, ?_⟩
                rw [bs_app hl1]
                cases l with
                | nil => cases hf
                | cons x l => rw [show bsOf [a] [x :: l] = [a] from rfl, List.map_append]; rfl
        · obtain ⟨rfl, as1, ls1, as2, ls2, ha, hls, hl1, hrest, rfl⟩ := hI
          have : as2 = [] := by cases as2 with | nil => rfl | cons a as2 => cases hrest
          subst this
          rw [List.append_nil] at ha
          subst ha
          have : ls2 = [] := by
            have h2 := congrArg List.length hls
            rw [List.length_append] at h2
            exact List.eq_nil_of_length_eq_zero (by omega)
          subst this
          rw [List.append_nil] at hls
          subst hls
          have R6 : Rs K H F (pz as ls) [.frz td, .frz more, .frz (.lst (as.map D.adr)), .own (.lst found), .frz (.int (turn : Nat)), .own (.lst ((bsOf as ls).map D.adr)), .un, .un] F6 σ6 H6 := R6
          obtain ⟨b, l, rest, p1, p2, p3, p4⟩ := mix_pop as ls _ d ls' hl4 g2'
          rw [← bs_length as ls hl4] at p1
          have R7 := R6.perm p2
          refine PSs.sem (pss_cons ps_sem pss_sem) ?_
          refine PS.sem (ps_expr pe_sem rfl) ?_
          refine ts_appE 3 rfl (Or.inl rfl) (ts' := (b, .lst l) :: rest) (env' := [.frz td, .frz more, .frz (.lst (as.map D.adr)), .own (.lst found), .frz (.int (turn : Nat)), .own (.lst ((bsOf as ls).map D.adr)), .un, .un]) (d := d) R7 rfl rfl (decide_eq_true (by omega)) (fun Q' hQ => ?_) (fun F8 H8 R8 => ?_)
          · refine ts_pop0 (W := DL.WE ca E) ?_ R7 (mix_ix g1' p1) hQ
            exact de_ixR (ix_D (hu_of hr)) v_ix (de_var 5 rfl (Or.inl rfl)) (de_op op_mod v_mod (de_op op_fdivW v_fdiv (de_call (ok_law_drawn T) (hr.mono (by decide)) rfl pass_body (da_cons (DE.df (de_var 1 rfl (Or.inl rfl))) (da_cons (DE.df (de_var 4 rfl (Or.inl rfl))) (da_nil)))) (de_int)) (de_b1 call_lenA v_len rfl T.b_len bt_len (de_var 5 rfl (Or.inl rfl)))) (fun _ _ => rfl)
          · have R8 : Rs K H F ((b, .lst l) :: rest) [.frz td, .frz more, .frz (.lst (as.map D.adr)), .own (.lst (found ++ [d])), .frz (.int (turn : Nat)), .own (.lst ((bsOf as ls).map D.adr)), .un, .un] F8 σ6 H8 := R8
            have R9 := R8.perm p3.symm
            refine PSs.sem (pss_one ps_sem) ?_
            refine DS.ts (W := DL.WE ca E) (ds_set 4 sc_law_mixed.nd rfl (Or.inl rfl) (de_op op_addD v_add (de_var 4 rfl (Or.inl rfl)) (de_int))) R9 rfl fun F10 σ10 H10 R10 => ?_
            refine ⟨ls', found ++ [d], turn + 1, _, F10, by rw [p4]; exact hl4, R10, g3', by rw [List.length_append, List.length_singleton]; omega⟩

abbrev N_law : List Str := ["script", "k", "more", "rows", "j", "here", "told", "due", "hand", "places", "mine", "spot", "row", "word"]
theorem sc_law : FnScope N_law ["script"] (defScope s_law) := ⟨rfl, rfl, rfl, by decide +kernel, rfl, by decide +kernel, by decide +kernel⟩
theorem ok_law (T : Tx P w K mg base ca) {f : Addr} {fd : FuncData} (Fd : FunD K "law" "law" (defArgs s_law) (defBody s_law) (defScope s_law) [] [] f fd) : FnOk P w K mg base (L2N.CX P w) 9 f fd ["script"] (spD K ca 1 sem_law) := by
  refine fn_at Fd sc_law g_law (fun cdv A outer s H E hr => ?_)
  exact db_cons (ds_for own_body rfl (di_range1 rfl T.b_range (de_b2 (call_max2 rfl) v_max2 rfl T.b_max bt_max (de_int) (de_b2 (call_min2 rfl) v_min2 rfl T.b_min bt_min (de_int) (de_b1 call_lenA v_len rfl T.b_len bt_len (de_var 0 rfl (Or.inl rfl)))))) (dg_name 1 sc_law.nd rfl (Or.inl rfl)) (db_cons (ds_set 2 sc_law.nd rfl (Or.inl rfl) (de_call (ok_law_drawn T) (hr.mono (by decide)) rfl pass_body (da_cons (DE.df (de_call (ok_law_cell T) (hr.mono (by decide)) rfl pass_body (da_cons (DE.df (de_var 0 rfl (Or.inl rfl))) (da_cons (DE.df (de_var 1 rfl (Or.inl rfl))) (da_nil))))) (da_cons (DE.df (de_var 1 rfl (Or.inl rfl))) (da_nil))))) (db_cons (ds_set 3 sc_law.nd rfl (Or.inr rfl) (de_lst (da_nil))) (db_cons (ds_for own_body rfl (di_range1 rfl T.b_range (de_op op_mod v_mod (de_var 2 rfl (Or.inl rfl)) (de_int))) (dg_name 4 sc_law.nd rfl (Or.inl rfl)) (db_cons (ds_set 5 sc_law.nd rfl (Or.inl rfl) (de_call (ok_law_drawn T) (hr.mono (by decide)) rfl pass_body (da_cons (DE.df (de_var 2 rfl (Or.inl rfl))) (da_cons (DE.df (de_op op_addD v_add (de_int) (de_var 4 rfl (Or.inl rfl)))) (da_nil))))) (db_one (ds_expr (de_append 3 rfl (Or.inr (Or.inl rfl)) (DE.df (de_tup (da_cons (DE.df (de_op op_mod v_mod (de_op op_fdivW v_fdiv (de_var 5 rfl (Or.inl rfl)) (de_int)) (de_int))) (da_cons (DE.df (de_op op_addD v_add (de_int) (de_op op_mod v_mod (de_op op_fdivW v_fdiv (de_var 5 rfl (Or.inl rfl)) (de_int)) (de_int)))) (da_cons (DE.df (de_ixR (ix_D (hu_of hr)) v_ix (de_lst (da_cons (DE.df (de_str)) (da_cons (DE.df (de_str)) (da_nil)))) (de_op op_mod v_mod (de_var 5 rfl (Or.inl rfl)) (de_int)) (fun _ _ => rfl))) (da_cons (DE.df (de_call (ok_law_name T) (hr.mono (by decide)) rfl pass_body (da_cons (DE.df (de_op op_fdivW v_fdiv (de_var 5 rfl (Or.inl rfl)) (de_int))) (da_nil)))) (da_nil)))))))))))) (db_cons (ds_set 3 sc_law.nd rfl (Or.inr rfl) (de_slice (de_op op_addD v_add (de_slice (de_call (ok_law_mixed T) (hr.mono (by decide)) rfl pass_body (da_cons (DE.df (de_call (ok_law_trees T) (hr.mono (by decide)) rfl pass_body (da_cons (DE.df (de_op op_fdivW v_fdiv (de_var 2 rfl (Or.inl rfl)) (de_int))) (da_nil)))) (da_cons (DE.df (de_var 2 rfl (Or.inl rfl))) (da_nil)))) (do_none) (do_some (de_int))) (de_var 3 rfl (Or.inr (Or.inl rfl)))) (do_none) (do_some (de_int)))) (db_cons (ds_par2 6 7 rfl sc_law.nd rfl rfl (by decide) rfl rfl (de_call (ok_mended T) (hr.mono (by decide)) rfl pass_body (da_cons (DE.df (de_var 3 rfl (Or.inr (Or.inl rfl)))) (da_nil))) (de_lst (da_nil)) (by rfl)) (db_cons (ds_for own_body rfl (di_any (de_call (ok_hands T) (hr.mono (by decide)) rfl pass_body (da_cons (DE.df (de_var 3 rfl (Or.inr (Or.inl rfl)))) (da_nil)))) (dg_name 8 sc_law.nd rfl (Or.inr rfl)) (db_cons (ds_set 9 sc_law.nd rfl (Or.inr rfl) (de_lc rfl sc_law.nd (own := [(("spot" : Str), 11), (("row" : Str), 12)]) (ok := (blkOk_by (own := [(("spot" : Str), 11), (("row" : Str), 12)]) (N := N_law) (sc := defScope s_law) (by decide +kernel))) (di_enum rfl T.b_enumerate (de_var 3 rfl (Or.inr (Or.inl rfl)))) (by decide) (fun _ _ _ _ _ => dg_tup rfl (dgs_cons (dg_name 11 sc_law.nd rfl (Or.inl rfl)) (dgs_cons (dg_name 12 sc_law.nd rfl (Or.inl rfl)) (dgs_nil))) (tCons'_len (tCons'_len (tNil'_len)))) (fun _ _ _ _ _ => dts_one (dt_cmp (op_eq2 (room66 hr)) v_eq2 (de_ixR (ix_D (hu_of hr)) v_ix (de_var 12 rfl (Or.inl rfl)) (de_int) (fun _ _ => rfl)) (de_var 8 rfl (Or.inr (Or.inl rfl))) (nomark _))) (fun _ _ _ _ _ => de_var 11 rfl (Or.inl rfl)))) (db_cons (ds_setLc 10 (own := [(("spot" : Str), 11)]) rfl sc_law.nd rfl rfl (sw_true rfl rfl rfl (by decide +kernel)) (blkOk_by (own := [(("spot" : Str), 11)]) (N := N_law) (sc := defScope s_law) (by decide +kernel)) (di_any (de_var 9 rfl (Or.inr (Or.inl rfl)))) (by decide) (fun _ _ _ _ _ => dg_name 11 sc_law.nd rfl (Or.inl rfl)) (fun _ _ _ _ _ => dts_nil) (fun _ _ _ _ _ => de_ixR (ix_D (hu_of hr)) v_ix (de_var 3 rfl (Or.inr (Or.inl rfl))) (de_var 11 rfl (Or.inl rfl)) (fun _ _ => rfl))) (db_cons (ds_set 7 sc_law.nd rfl (Or.inl rfl) (de_op op_addD v_add (de_var 7 rfl (Or.inl rfl)) (de_lc rfl sc_law.nd (own := [(("spot" : Str), 11), (("word" : Str), 13)]) (ok := (blkOk_by (own := [(("spot" : Str), 11), (("word" : Str), 13)]) (N := N_law) (sc := defScope s_law) (by decide +kernel))) (di_any (de_call (ok_faults T) (hr.mono (by decide)) rfl pass_body (da_cons (DE.df (de_var 10 rfl (Or.inl rfl))) (da_nil)))) (by decide) (fun _ _ _ _ _ => dg_tup rfl (dgs_cons (dg_name 11 sc_law.nd rfl (Or.inl rfl)) (dgs_cons (dg_name 13 sc_law.nd rfl (Or.inl rfl)) (dgs_nil))) (tCons'_len (tCons'_len (tNil'_len)))) (fun _ _ _ _ _ => dts_nil) (fun _ _ _ _ _ => de_tup (da_cons (DE.df (de_ixR (ix_D (hu_of hr)) v_ix (de_var 9 rfl (Or.inr (Or.inl rfl))) (de_var 11 rfl (Or.inl rfl)) (fun _ _ => rfl))) (da_cons (DE.df (de_var 13 rfl (Or.inl rfl))) (da_nil))))))) (db_one (ds_if (DW.dt (dw_or (dt_cmp (op_ne2 (room66 hr)) v_ne2 (de_call (ok_mended T) (hr.mono (by decide)) rfl pass_body (da_cons (DE.df (de_var 10 rfl (Or.inl rfl))) (da_nil))) (de_lc rfl sc_law.nd (own := [(("row" : Str), 12)]) (ok := (blkOk_by (own := [(("row" : Str), 12)]) (N := N_law) (sc := defScope s_law) (by decide +kernel))) (di_any (de_var 6 rfl (Or.inl rfl))) (by decide) (fun _ _ _ _ _ => dg_name 12 sc_law.nd rfl (Or.inl rfl)) (fun _ _ _ _ _ => dts_one (dt_cmp (op_eq2 (room66 hr)) v_eq2 (de_ixR (ix_D (hu_of hr)) v_ix (de_var 12 rfl (Or.inl rfl)) (de_int) (fun _ _ => rfl)) (de_var 8 rfl (Or.inr (Or.inl rfl))) (nomark _))) (fun _ _ _ _ _ => de_var 12 rfl (Or.inl rfl))) (nomark _)) (dw_or1 (dt_cmp (op_ne2 (room66 hr)) v_ne2 (de_call (ok_hands T) (hr.mono (by decide)) rfl pass_body (da_cons (DE.df (de_var 10 rfl (Or.inl rfl))) (da_nil))) (de_lst (da_cons (DE.df (de_var 8 rfl (Or.inr (Or.inl rfl)))) (da_nil))) (nomark _))))) (db_one (ds_ret (de_bl))) (db_nil))))))) (db_cons (ds_if (DW.dt (dw_or (dt_cmp (op_ne2 (room66 hr)) v_ne2 (de_b1 (cr_sort2 hr.units rfl) v_sort2 rfl T.b_sorted bt_sorted (de_var 7 rfl (Or.inl rfl))) (de_call (ok_faults T) (hr.mono (by decide)) rfl pass_body (da_cons (DE.df (de_var 3 rfl (Or.inr (Or.inl rfl)))) (da_nil))) (nomark _)) (dw_or (dt_cmp (op_ne2 (room66 hr)) v_ne2 (de_call (ok_mended T) (hr.mono (by decide)) rfl pass_body (da_cons (DE.df (de_var 6 rfl (Or.inl rfl))) (da_nil))) (de_var 6 rfl (Or.inl rfl)) (nomark _)) (dw_or1 (dt_cmp (op_ne2 (room66 hr)) v_ne2 (de_call (ok_faults T) (hr.mono (by decide)) rfl pass_body (da_cons (DE.df (de_var 6 rfl (Or.inl rfl))) (da_nil))) (de_lst (da_nil)) (nomark _)))))) (db_one (ds_ret (de_bl))) (db_nil)) (db_cons (ds_if (dt_cmp (op_ne2 (room66 hr)) v_ne2 (de_lc rfl sc_law.nd (own := [(("row" : Str), 12)]) (ok := (blkOk_by (own := [(("row" : Str), 12)]) (N := N_law) (sc := defScope s_law) (by decide +kernel))) (di_any (de_var 6 rfl (Or.inl rfl))) (by decide) (fun _ _ _ _ _ => dg_name 12 sc_law.nd rfl (Or.inl rfl)) (fun _ _ _ _ _ => dts_one (dt_cmp (op_eq2 (room66 hr)) v_eq2 (de_ixR (ix_D (hu_of hr)) v_ix (de_var 12 rfl (Or.inl rfl)) (de_int) (fun _ _ => rfl)) (de_str) (nomark _))) (fun _ _ _ _ _ => de_slice (de_var 12 rfl (Or.inl rfl)) (do_some (de_int)) (do_none))) (de_lc rfl sc_law.nd (own := [(("row" : Str), 12)]) (ok := (blkOk_by (own := [(("row" : Str), 12)]) (N := N_law) (sc := defScope s_law) (by decide +kernel))) (di_any (de_var 3 rfl (Or.inr (Or.inl rfl)))) (by decide) (fun _ _ _ _ _ => dg_name 12 sc_law.nd rfl (Or.inl rfl)) (fun _ _ _ _ _ => dts_one (dt_cmp (op_eq2 (room66 hr)) v_eq2 (de_ixR (ix_D (hu_of hr)) v_ix (de_var 12 rfl (Or.inl rfl)) (de_int) (fun _ _ => rfl)) (de_str) (nomark _))) (fun _ _ _ _ _ => de_slice (de_var 12 rfl (Or.inl rfl)) (do_some (de_int)) (do_none))) (nomark _)) (db_one (ds_ret (de_bl))) (db_nil)) (db_one (ds_if (dt_cmp (op_ne2 (room66 hr)) v_ne2 (de_cmp (op_eq2 (room66 hr)) v_eq2 (de_var 6 rfl (Or.inl rfl)) (de_var 3 rfl (Or.inr (Or.inl rfl))) (nomark _)) (de_cmp (op_eq2 (room66 hr)) v_eq2 (de_call (ok_faults T) (hr.mono (by decide)) rfl pass_body (da_cons (DE.df (de_var 3 rfl (Or.inr (Or.inl rfl)))) (da_nil))) (de_lst (da_nil)) (nomark _)) (nomark _)) (db_one (ds_ret (de_bl))) (db_nil)))))))))))) (db_one (ds_ret (de_bl)))
end
def mks : List Str := []
def tf : List He.Defn := mks.map fun x => (x, none)
def ex (K : PySem.W.Frag) : Bool := tabD K mks
theorem tx_mk {P : Program} {w : World} {K : PySem.W.Frag} {h : Heap} {mg : Str → Option Value} {base : Heap} (X : K.In h) (G : h.Ns mainGlobals mg) (c : He.SaysX fa fn [] tf ex w h K) (tb : ∀ p ∈ tf.map (He.cT K), LamX.TabB base mg p.1 p.2) : @Tx ⟨tabT K mks⟩ P w K mg base (He.ga K) := by
  have cx := c.more
  unfold ex at cx
  have tb1 : ∀ x ∈ mks, LamX.TabB base mg (cdF K x) (tbF K x) := fun x hx => tb _ (List.mem_map.mpr ⟨(x, none), List.mem_map.mpr ⟨x, hx, rfl⟩, rfl⟩)
  have c := c.t.d
  letI : TabCtx := ⟨tabT K mks⟩
  refine {
    b_ValueError := He.free_ok X G (c.fact 23 (f := .free "ValueError") rfl)
    b_all := He.free_ok X G (c.fact 24 (f := .free "all") rfl)
    b_bool := He.free_ok X G (c.fact 25 (f := .free "bool") rfl)
    b_enumerate := He.free_ok X G (c.fact 26 (f := .free "enumerate") rfl)
    b_int := He.free_ok X G (c.fact 27 (f := .free "int") rfl)
    b_isinstance := He.free_ok X G (c.fact 28 (f := .free "isinstance") rfl)
    b_len := He.free_ok X G (c.fact 29 (f := .free "len") rfl)
    b_list := He.free_ok X G (c.fact 30 (f := .free "list") rfl)
    b_max := He.free_ok X G (c.fact 31 (f := .free "max") rfl)
    b_min := He.free_ok X G (c.fact 32 (f := .free "min") rfl)
    b_range := He.free_ok X G (c.fact 33 (f := .free "range") rfl)
    b_set := He.free_ok X G (c.fact 34 (f := .free "set") rfl)
    b_sorted := He.free_ok X G (c.fact 35 (f := .free "sorted") rfl)
    b_str := He.free_ok X G (c.fact 36 (f := .free "str") rfl)
    b_tuple := He.free_ok X G (c.fact 37 (f := .free "tuple") rfl)
    c_MOST_TICK := He.int_ok X G (c.fact 18 (f := .int "MOST_TICK" 1000000) rfl)
    c_MOST_HAND := He.int_ok X G (c.fact 19 (f := .int "MOST_HAND" 4) rfl)
    c_MOST_ROWS := He.int_ok X G (c.fact 20 (f := .int "MOST_ROWS" 200) rfl)
    c_MOST_NAME := He.int_ok X G (c.fact 21 (f := .int "MOST_NAME" 8) rfl)
    c_SMALL := He.str_ok X G (c.fact 22 (f := .str "SMALL" "abcdefghijklmnopqrstuvwxyz") rfl)
    d_is_count := by
      obtain ⟨fd, F⟩ := c.def_ 0 (d := d_is_count) rfl
      exact ⟨_, fd, F, He.glo_ok X G (c.fact 0 (f := .glo "is_count") rfl), F.bindsN fun _ _ _ _ _ _ us hl => match us, hl with | [_, _, _], _ => rfl⟩
    d_is_name := by
      obtain ⟨fd, F⟩ := c.def_ 1 (d := d_is_name) rfl
      exact ⟨_, fd, F, He.glo_ok X G (c.fact 1 (f := .glo "is_name") rfl), F.bindsN fun _ _ _ _ _ _ us hl => match us, hl with | [_], _ => rfl⟩
    d_is_row := by
      obtain ⟨fd, F⟩ := c.def_ 2 (d := d_is_row) rfl
      exact ⟨_, fd, F, He.glo_ok X G (c.fact 2 (f := .glo "is_row") rfl), F.bindsN fun _ _ _ _ _ _ us hl => match us, hl with | [_], _ => rfl⟩
    d_need_rows := by
      obtain ⟨fd, F⟩ := c.def_ 3 (d := d_need_rows) rfl
      exact ⟨_, fd, F, He.glo_ok X G (c.fact 3 (f := .glo "need_rows") rfl), F.bindsN fun _ _ _ _ _ _ us hl => match us, hl with | [_], _ => rfl⟩
    d_faults_of := by
      obtain ⟨fd, F⟩ := c.def_ 4 (d := d_faults_of) rfl
      exact ⟨_, fd, F, He.glo_ok X G (c.fact 4 (f := .glo "faults_of") rfl), F.bindsN fun _ _ _ _ _ _ us hl => match us, hl with | [_], _ => rfl⟩
    d_faults := by
      obtain ⟨fd, F⟩ := c.def_ 5 (d := d_faults) rfl
      exact ⟨_, fd, F, He.glo_ok X G (c.fact 5 (f := .glo "faults") rfl), F.bindsN fun _ _ _ _ _ _ us hl => match us, hl with | [_], _ => rfl⟩
    d_inner_place := by
      obtain ⟨fd, F⟩ := c.def_ 6 (d := d_inner_place) rfl
      exact ⟨_, fd, F, He.glo_ok X G (c.fact 6 (f := .glo "inner_place") rfl), F.bindsN fun _ _ _ _ _ _ us hl => match us, hl with | [_, _], _ => rfl⟩
    d_mended_of := by
      obtain ⟨fd, F⟩ := c.def_ 7 (d := d_mended_of) rfl
      exact ⟨_, fd, F, He.glo_ok X G (c.fact 7 (f := .glo "mended_of") rfl), F.bindsN fun _ _ _ _ _ _ us hl => match us, hl with | [_], _ => rfl⟩
    d_mended := by
      obtain ⟨fd, F⟩ := c.def_ 8 (d := d_mended) rfl
      exact ⟨_, fd, F, He.glo_ok X G (c.fact 8 (f := .glo "mended") rfl), F.bindsN fun _ _ _ _ _ _ us hl => match us, hl with | [_], _ => rfl⟩
    d_hands := by
      obtain ⟨fd, F⟩ := c.def_ 9 (d := d_hands) rfl
      exact ⟨_, fd, F, He.glo_ok X G (c.fact 9 (f := .glo "hands") rfl), F.bindsN fun _ _ _ _ _ _ us hl => match us, hl with | [_], _ => rfl⟩
    d_law_cell := by
      obtain ⟨fd, F⟩ := c.def_ 10 (d := d_law_cell) rfl
      exact ⟨_, fd, F, He.glo_ok X G (c.fact 10 (f := .glo "_law_cell") rfl), F.bindsN fun _ _ _ _ _ _ us hl => match us, hl with | [_, _], _ => rfl⟩
    d_law_drawn := by
      obtain ⟨fd, F⟩ := c.def_ 11 (d := d_law_drawn) rfl
      exact ⟨_, fd, F, He.glo_ok X G (c.fact 11 (f := .glo "_law_drawn") rfl), F.bindsN fun _ _ _ _ _ _ us hl => match us, hl with | [_, _], _ => rfl⟩
    d_law_name := by
      obtain ⟨fd, F⟩ := c.def_ 12 (d := d_law_name) rfl
      exact ⟨_, fd, F, He.glo_ok X G (c.fact 12 (f := .glo "_law_name") rfl), F.bindsN fun _ _ _ _ _ _ us hl => match us, hl with | [_], _ => rfl⟩
    d_law_calls := by
      obtain ⟨fd, F⟩ := c.def_ 13 (d := d_law_calls) rfl
      exact ⟨_, fd, F, He.glo_ok X G (c.fact 13 (f := .glo "_law_calls") rfl), F.bindsN fun _ _ _ _ _ _ us hl => match us, hl with | [_, _, _, _], _ => rfl⟩
    d_law_trees := by
      obtain ⟨fd, F⟩ := c.def_ 14 (d := d_law_trees) rfl
      exact ⟨_, fd, F, He.glo_ok X G (c.fact 14 (f := .glo "_law_trees") rfl), F.bindsN fun _ _ _ _ _ _ us hl => match us, hl with | [_], _ => rfl⟩
    d_law_lines := by
      obtain ⟨fd, F⟩ := c.def_ 15 (d := d_law_lines) rfl
      exact ⟨_, fd, F, He.glo_ok X G (c.fact 15 (f := .glo "_law_lines") rfl), F.bindsN fun _ _ _ _ _ _ us hl => match us, hl with | [_, _], _ => rfl⟩
    d_law_mixed := by
      obtain ⟨fd, F⟩ := c.def_ 16 (d := d_law_mixed) rfl
      exact ⟨_, fd, F, He.glo_ok X G (c.fact 16 (f := .glo "_law_mixed") rfl), F.bindsN fun _ _ _ _ _ _ us hl => match us, hl with | [_, _], _ => rfl⟩
    d_law := by
      obtain ⟨fd, F⟩ := c.def_ 17 (d := d_law) rfl
      exact ⟨_, fd, F, He.glo_ok X G (c.fact 17 (f := .glo "law") rfl), F.bindsN fun _ _ _ _ _ _ us hl => match us, hl with | [_], _ => rfl⟩ }
abbrev R : PySem.W.OpenRow := PySem.W.OpenLaw.row PySem.Challenge.rw_calltimes_k11_whole_hands_by_themselves
abbrev hk : PySem.W.Hook := He.hookX 4 fa fn [] tf ex
def ob (s : PySem.W.SharedT) : He.AlX := He.obsX 4 fa fn [] tf ex (HandSHeadRun.getT s)
theorem ob_eq (s : PySem.W.SharedT) : ob s = hk.obs s.abs := He.obsX_eq (HandSHeadRun.getT_eq s)
theorem run (w : World) : HandSHeadRun.RunEq R (PySem.W.view R.prog [27]) hk ob 4000 loose w := by
  intro os
  kernel_rfl
theorem at_head {w : World} {K : PySem.W.Frag} {h : Heap} (X : K.In h) (c : He.SaysX fa fn [] tf ex w h K) : AtHead w K h (tf.map (He.cT K)) (tabT K mks) where
  kin := X
  emp := fun p hp => by
    obtain ⟨q, hq, rfl⟩ := List.mem_map.mp hp
    exact c.empty q hq
  out := fun p hp => by
    obtain ⟨q, hq, rfl⟩ := List.mem_map.mp hp
    exact c.out q hq
  hd := fun p hp => by
    obtain ⟨q, hq, rfl⟩ := List.mem_map.mp hp
    exact PySem.W.codeHd_of_K X (c.hd q hq)
  tab := fun p hp => by
    obtain ⟨x, hx, rfl⟩ := List.mem_map.mp hp
    exact ⟨cdF K x, List.mem_map.mpr ⟨(x, none), List.mem_map.mpr ⟨x, hx, rfl⟩, rfl⟩⟩
theorem law_of {P : Program} {w : World} {K : PySem.W.Frag} {h : Heap} {mg : Str → Option Value} {f : Addr} (X : K.In h) (G : h.Ns mainGlobals mg) (hf : mg ("law" : Str) = some (.ref f)) (c : He.SaysX fa fn [] tf ex w h K) :
    ∃ fd : FuncData, (∀ (s : Shared) (v : Value), BindsTo s fd ⟨[v], []⟩ [("script", v)]) ∧ ∀ base : Heap, (∀ p ∈ tf.map (He.cT K), LamX.TabB base mg p.1 p.2) → FnOk P w K mg base (L2N.CX P w) 9 f fd ["script"] (@spD ⟨tabT K mks⟩ K (He.ga K) 1 sem_law) := by
  obtain ⟨fd, F⟩ := c.t.d.def_ 17 (d := d_law) rfl
  have e := hf.symm.trans (He.glo_ok X G (c.t.d.fact 17 (f := .glo "law") rfl))
  cases e
  have b := FunD.bindsA (ps := ["script"]) F fun _ _ _ _ _ _ us hl => match us, hl with | [_], _ => rfl
  exact ⟨fd, fun s v => b s [v] rfl, fun base tb => @ok_law ⟨tabT K mks⟩ P w K mg base (He.ga K) (tx_mk X G c tb) _ fd F⟩
end DL
open PySem PySem.W PySem.Calls PyProof.Rows
theorem PySem.Challenge.cw_calltimes_k11_whole_hands_by_themselves_holds : PySem.Challenge.rw_calltimes_k11_whole_hands_by_themselves.Holds := by
  w_on; o_law
  refine HandSHeadRun.head_any (r := DL.R) (q := view DL.R.prog [27]) (H := DL.hk) (ob := DL.ob) (M := 4000) (loose := DL.loose) (d := HandSHeadRun.topDef DL.R.prog 27) (kwd := []) DL.ob_eq
    (by kernel_rfl) (fun s => by kernel_rfl) DL.run (by kernel_rfl) (by kernel_rfl) (by kernel_rfl) (by rfl) (by first | assumption | decide +kernel) (by decide +kernel) ⟨rfl, rfl, rfl, rfl, rfl, by decide +kernel⟩ ?wit ?walk
  case wit => w_witness2
  case walk =>
    refine DL.law_end (l := PySem.Challenge.rw_calltimes_k11_whole_hands_by_themselves) (n := 63) (k := 9) (x := "script") (sem := DL.sem_law) rfl (by decide) (by kernel_rfl) ⟨rfl, by decide, by decide⟩ (fun ns hl => @DL.m_law ⟨[]⟩ ns hl) ?_
    intro w mg fa h Y G hm
    obtain ⟨K, KX, c⟩ := Y
    have hm' : mg ("law" : PySem.Str) = some (.ref fa) := by
      have e : (HandSHeadRun.topDef DL.R.prog 27).name = ("law" : PySem.Str) := by kernel_rfl
      rw [← e]
      exact hm
    obtain ⟨fd, hb, hF⟩ := DL.law_of (P := (PySem.Challenge.rw_calltimes_k11_whole_hands_by_themselves).prog) (w := w) KX G hm' c
    exact ⟨K, fd, He.ga K, _, _, DL.at_head KX c, hb, fun base _ _ tb => hF base tb⟩

