import PyProof.Rows.All
import Wide.All
import OpenK.AllK
import Wide.FinOn
import HandS.ForMost
import HandS.Deep
import HandS.TupAny
import HandS.TupMul
import HandS.Nested
import HandS.SortKw
import HandS.Walk
import HandS.Flow
import HandS.Style
import KE.SortData
import KE.SortKeyHeap
import KE.DataMinMax
import HandS.Star
import HandS.IsInst
import HandS.Conv
import KE.GoesEnum
import KE.GoesMore
import HandS.Defaults
import HandS.CallLocal
import HandS.Words
import HandS.Head2
import HandS.HeadHook4
import HandS.HeadWalk
import PyProof.Rows.TupSub
import PySem.Challenge.RW_sightrows_k77_whole_arrivals_and_climbs
set_option Elab.async false
set_option linter.all false
set_option maxRecDepth 100000
set_option maxHeartbeats 4000000
/-! PD1: plain data, how the abstract heap bears it, readings by a pure function. -/
namespace PD
open PySem PySem.Spec PyProof.Rows L2 LamX NdefX

/-- Python's data as plain data -/
inductive D where
  | non | bl (b : Bool) | int (i : Int) | str (x : Str)
  | tup (xs : List D) | lst (xs : List D)
  | fn (i : Nat) | clo (i : Nat) | loc (n : Nat) | scr (xs : List D)
/-- what a location holds: a list, a dict of int keys -/
inductive MO where
  | lst (xs : List D)
  | dct (kvs : List (Int × D))
abbrev Sto := List MO
abbrev Env := List (Option D)
/-- an exception that is raised: the class's number, what it keeps -/
structure EX where
  cls : Nat
  args : List D
inductive R (α : Type) where
  | ok (a : α) (S : Sto)
  | exc (x : EX) (S : Sto)
  | bad
def R.bind {α β : Type} : R α → (α → Sto → R β) → R β
  | .ok a S, k => k a S
  | .exc x S, _ => .exc x S
  | .bad, _ => .bad
/-- it ends well, and so -/
def R.sat {α : Type} (r : R α) (P : α → Sto → Prop) : Prop := match r with
  | .ok a S => P a S
  | _ => False
@[simp] theorem R.bind_ok {α β : Type} (a : α) (S : Sto) (k : α → Sto → R β) : (R.ok a S).bind k = k a S := rfl
@[simp] theorem R.bind_exc {α β : Type} (x : EX) (S : Sto) (k : α → Sto → R β) : (R.exc x S).bind k = .exc x S := rfl
@[simp] theorem R.bind_bad {α β : Type} (k : α → Sto → R β) : (R.bad : R α).bind k = .bad := rfl
theorem R.sat_bind {α β : Type} {r : R α} {k : α → Sto → R β} {P : β → Sto → Prop} : (r.bind k).sat P ↔ r.sat fun a S => (k a S).sat P := by
  cases r <;> exact Iff.rfl
theorem R.sat_ok {α : Type} {a : α} {S : Sto} {P : α → Sto → Prop} : (R.ok a S).sat P ↔ P a S := Iff.rfl
theorem R.sat_mono {α : Type} {r : R α} {P P' : α → Sto → Prop} (h : r.sat P) (m : ∀ a S, P a S → P' a S) : r.sat P' := by
  cases r with
  | ok a S => exact m a S h
  | exc x S => exact h
  | bad => exact h
/-- what there is, or nothing good -/
def lift {α : Type} (o : Option α) (S : Sto) : R α := match o with
  | some a => .ok a S
  | none => .bad
@[simp] theorem lift_some {α : Type} (a : α) (S : Sto) : lift (some a) S = .ok a S := rfl
@[simp] theorem lift_none {α : Type} (S : Sto) : lift (none : Option α) S = .bad := rfl
theorem sat_lift {α : Type} {o : Option α} {S : Sto} {P : α → Sto → Prop} : (lift o S).sat P ↔ ∃ a, o = some a ∧ P a S := by
  cases o with
  | none => exact ⟨fun h => h.elim, fun ⟨_, h, _⟩ => nomatch h⟩
  | some a => exact ⟨fun h => ⟨a, rfl, h⟩, fun ⟨_, h, q⟩ => by cases h; exact q⟩
/-- only if -/
def guardR {α : Type} (b : Bool) (r : R α) : R α := match b with
  | true => r
  | false => .bad
@[simp] theorem guardR_true {α : Type} (r : R α) : guardR true r = r := rfl
theorem sat_guard {α : Type} {b : Bool} {r : R α} {P : α → Sto → Prop} : (guardR b r).sat P ↔ b = true ∧ r.sat P := by
  cases b with
  | true => exact ⟨fun h => ⟨rfl, h⟩, fun h => h.2⟩
  | false => exact ⟨fun h => h.elim, fun h => nomatch h.1⟩

/-! ### data of the library -/
/-- data without defs and places, not deep -/
def D.dat : Nat → D → Bool
  | _, .non => true
  | _, .bl _ => true
  | _, .int _ => true
  | _, .str x => PyData.canLay0 (.str x)
  | k + 1, .tup xs => xs.all (D.dat k)
  | k + 1, .lst xs => xs.all (D.dat k)
  | _, _ => false
def D.toP : Nat → D → PyData
  | _, .non => .none
  | _, .bl b => .bool b
  | _, .int i => .int i
  | _, .str x => .str x
  | k + 1, .tup xs => .tuple (xs.map (D.toP k))
  | k + 1, .lst xs => .list (xs.map (D.toP k))
  | _, _ => .none

structure Bs where
  K : PySem.W.Frag
  fa : Nat → Addr
  tabs : List NTab
  cf : Nat → Addr → NF

mutual
inductive Rep (B : Bs) (L : List Addr) (H : Hp) : V → D → Prop
  | non : Rep B L H .non .non
  | bl (b : Bool) : Rep B L H (.bl b) (.bl b)
  | int (i : Int) : Rep B L H (.int i) (.int i)
  | str (x : Str) : Rep B L H (.str x) (.str x)
  | tup {a : Addr} {xs : List V} {ds : List D} : SqT B.K H a xs → Reps B L H xs ds → Rep B L H (.ref a) (.tup ds)
  | lst {a : Addr} {xs : List V} {ds : List D} : Rd H a (.lst xs) → Reps B L H xs ds → Rep B L H (.ref a) (.lst ds)
  | fn (i : Nat) : Rep B L H (.ref (B.fa i)) (.fn i)
  | clo {i : Nat} {f c : Addr} : H f = some (FnO f (B.cf i c)) → H (B.cf i c).c = some (CodeO (B.cf i c).c (B.cf i c).qual) → Rep B L H (.ref f) (.clo i)
  | loc {n : Nat} {a : Addr} : L[n]? = some a → Rep B L H (.ref a) (.loc n)
  | scr {a : Addr} {xs : List V} {ds : List D} : SqL B.K H a xs → Reps B L H xs ds → Rep B L H (.ref a) (.scr ds)
inductive Reps (B : Bs) (L : List Addr) (H : Hp) : List V → List D → Prop
  | nil : Reps B L H [] []
  | cons {v : V} {vs : List V} {d : D} {ds : List D} : Rep B L H v d → Reps B L H vs ds → Reps B L H (v :: vs) (d :: ds)
end

/-- what stays: all but the tables -/
abbrev Sta (H H' : Hp) : Prop := ExtN H H'
theorem Sta.seqL {K : PySem.W.Frag} {H H' : Hp} {a : Addr} {xs : List V} (e : Sta H H') (h : SqL K H a xs) : SqL K H' a xs := by
  rcases h with (h | ⟨o, h⟩) | h
  · exact .inl (.inl (e _ _ h (fun _ z => nomatch z)))
  · exact .inl (.inr ⟨o, e _ _ h (fun _ z => nomatch z)⟩)
  · exact .inr h
theorem Sta.rdL {H H' : Hp} {a : Addr} {xs : List V} (e : Sta H H') (h : Rd H a (.lst xs)) : Rd H' a (.lst xs) := by
  rcases h with h | ⟨o, h⟩
  · exact .inl (e _ _ h (fun _ z => nomatch z))
  · exact .inr ⟨o, e _ _ h (fun _ z => nomatch z)⟩
theorem Sta.seqT {K : PySem.W.Frag} {H H' : Hp} {a : Addr} {xs : List V} (e : Sta H H') (h : SqT K H a xs) : SqT K H' a xs := by
  rcases h with (h | ⟨o, h⟩) | h
  · exact .inl (.inl (e _ _ h (fun _ z => nomatch z)))
  · exact .inl (.inr ⟨o, e _ _ h (fun _ z => nomatch z)⟩)
  · exact .inr h
theorem pre_get {L L' : List Addr} (p : L <+: L') {n : Nat} {a : Addr} (h : L[n]? = some a) : L'[n]? = some a := by
  obtain ⟨t, rfl⟩ := p
  have hn : n < L.length := (List.getElem?_eq_some_iff.mp h).1
  rw [List.getElem?_append_left hn]
  exact h
section
variable {B : Bs} {L L' : List Addr} {H H' : Hp}
mutual
theorem Rep.mono (p : L <+: L') (e : Sta H H') : ∀ (d : D) (v : V), Rep B L H v d → Rep B L' H' v d
  | .non, _, h => by cases h; exact .non
  | .bl b, _, h => by cases h; exact .bl b
  | .int b, _, h => by cases h; exact .int b
  | .str b, _, h => by cases h; exact .str b
  | .tup ds, _, h => by
    cases h with
    | tup hs ha => exact .tup (e.seqT hs) (Reps.mono p e ds _ ha)
  | .lst ds, _, h => by
    cases h with
    | lst hs ha => exact .lst (e.rdL hs) (Reps.mono p e ds _ ha)
  | .fn i, _, h => by cases h; exact .fn i
  | .clo i, _, h => by
    cases h with
    | clo h1 h2 => exact .clo (e _ _ h1 fnO_ne) (e _ _ h2 codeO_ne)
  | .loc n, _, h => by
    cases h with
    | loc h1 => exact .loc (pre_get p h1)
  | .scr ds, _, h => by
    cases h with
    | scr hs ha => exact .scr (e.seqL hs) (Reps.mono p e ds _ ha)
theorem Reps.mono (p : L <+: L') (e : Sta H H') : ∀ (ds : List D) (vs : List V), Reps B L H vs ds → Reps B L' H' vs ds
  | [], _, h => by cases h; exact .nil
  | d :: ds, _, h => by
    cases h with
    | cons h1 h2 => exact .cons (Rep.mono p e d _ h1) (Reps.mono p e ds _ h2)
end
theorem Reps.length : ∀ {vs : List V} {ds : List D}, Reps B L H vs ds → vs.length = ds.length
  | _, _, .nil => rfl
  | _, _, .cons _ t => congrArg (· + 1) (Reps.length t)
theorem Reps.get : ∀ {vs : List V} {ds : List D} {i : Nat} {d : D}, Reps B L H vs ds → ds[i]? = some d → ∃ v, vs[i]? = some v ∧ Rep B L H v d
  | _, _, _, _, .nil, e => by simp at e
  | _, _, 0, _, .cons r _, e => by simp at e; subst e; exact ⟨_, rfl, r⟩
  | _, _, i + 1, x, .cons _ t, e => by
    obtain ⟨u, h1, h2⟩ := Reps.get (i := i) (d := x) t (by simpa using e)
    exact ⟨u, by simpa using h1, h2⟩
theorem Reps.getV : ∀ {vs : List V} {ds : List D} {i : Nat} {v : V}, Reps B L H vs ds → vs[i]? = some v → ∃ d, ds[i]? = some d ∧ Rep B L H v d
  | _, _, _, _, .nil, e => by simp at e
  | _, _, 0, _, .cons r _, e => by simp at e; subst e; exact ⟨_, rfl, r⟩
  | _, _, i + 1, x, .cons _ t, e => by
    obtain ⟨u, h1, h2⟩ := Reps.getV (i := i) (v := x) t (by simpa using e)
    exact ⟨u, by simpa using h1, h2⟩
theorem Reps.app : ∀ {vs ws : List V} {ds es : List D}, Reps B L H vs ds → Reps B L H ws es → Reps B L H (vs ++ ws) (ds ++ es)
  | _, _, _, _, .nil, s => s
  | _, _, _, _, .cons r t, s => .cons r (Reps.app t s)
theorem Reps.take : ∀ {vs : List V} {ds : List D} (n : Nat), Reps B L H vs ds → Reps B L H (vs.take n) (ds.take n)
  | _, _, 0, _ => .nil
  | _, _, _ + 1, .nil => .nil
  | _, _, n + 1, .cons r t => .cons r (Reps.take n t)
theorem Reps.drop : ∀ {vs : List V} {ds : List D} (n : Nat), Reps B L H vs ds → Reps B L H (vs.drop n) (ds.drop n)
  | _, _, 0, r => r
  | _, _, _ + 1, .nil => .nil
  | _, _, n + 1, .cons _ t => Reps.drop n t
theorem Reps.snoc {vs : List V} {ds : List D} {v : V} {d : D} (r : Reps B L H vs ds) (h : Rep B L H v d) : Reps B L H (vs ++ [v]) (ds ++ [d]) := r.app (.cons h .nil)
theorem Reps.ints : ∀ {vs : List V} {ns : List Int}, Reps B L H vs (ns.map D.int) → vs = ns.map V.int
  | [], [], _ => rfl
  | _, n :: ns, .cons r t => by
    cases r
    rw [Reps.ints (ns := ns) t]
    rfl
theorem Reps.bls : ∀ {vs : List V} {ns : List Bool}, Reps B L H vs (ns.map D.bl) → vs = ns.map V.bl
  | [], [], _ => rfl
  | _, n :: ns, .cons r t => by
    cases r
    rw [Reps.bls (ns := ns) t]
    rfl
theorem reps_ints : ∀ (ns : List Int), Reps B L H (ns.map V.int) (ns.map D.int)
  | [] => .nil
  | n :: ns => .cons (.int n) (reps_ints ns)

mutual
/-- data is data to the library -/
theorem Rep.dp : ∀ (k : Nat) (d : D) (v : V), D.dat k d = true → Rep B L H v d → Dp B.K H v (D.toP k d)
  | k, .non, _, _, h => by cases h; cases k <;> exact .non
  | k, .bl b, _, _, h => by cases h; cases k <;> exact .bl b
  | k, .int b, _, _, h => by cases h; cases k <;> exact .int b
  | k, .str b, _, _, h => by cases h; cases k <;> exact .str b
  | 0, .tup _, _, q, _ => by simp [D.dat] at q
  | 0, .lst _, _, q, _ => by simp [D.dat] at q
  | k + 1, .tup ds, _, q, h => by
    cases h with
    | tup hs ha => exact .tup hs (Reps.dp k ds _ (by simpa [D.dat] using q) ha)
  | k + 1, .lst ds, _, q, h => by
    cases h with
    | lst hs ha => exact .lst (.inl hs) (Reps.dp k ds _ (by simpa [D.dat] using q) ha)
  | k, .fn _, _, q, _ => by cases k <;> simp [D.dat] at q
  | k, .clo _, _, q, _ => by cases k <;> simp [D.dat] at q
  | k, .loc _, _, q, _ => by cases k <;> simp [D.dat] at q
  | k, .scr _, _, q, _ => by cases k <;> simp [D.dat] at q
theorem Reps.dp : ∀ (k : Nat) (ds : List D) (vs : List V), (∀ d ∈ ds, D.dat k d = true) → Reps B L H vs ds → DpAll B.K H vs (ds.map (D.toP k))
  | _, [], _, _, h => by cases h; exact .nil
  | k, d :: ds, _, q, h => by
    cases h with
    | cons h1 h2 => exact .cons (Rep.dp k d _ (q d List.mem_cons_self) h1) (Reps.dp k ds _ (fun z hz => q z (List.mem_cons_of_mem _ hz)) h2)
end
end
theorem layAll {k : Nat} : ∀ (ds : List D), (∀ d ∈ ds, D.dat k d = true) → (∀ d, D.dat k d = true → PyData.canLay0 (D.toP k d) = true ∧ (D.toP k d).depth ≤ k) → PyData.canLayAll0 (ds.map (D.toP k)) = true ∧ PyData.depthAll (ds.map (D.toP k)) ≤ k
  | [], _, _ => ⟨by simp [PyData.canLayAll0], by simp [PyData.depthAll]⟩
  | d :: ds, h, ih => by
    obtain ⟨a1, a2⟩ := ih d (h d List.mem_cons_self)
    obtain ⟨b1, b2⟩ := layAll ds (fun z hz => h z (List.mem_cons_of_mem _ hz)) ih
    refine ⟨by simp [PyData.canLayAll0, a1, b1], ?_⟩
    show max (D.toP k d).depth (PyData.depthAll (ds.map (D.toP k))) ≤ k
    omega
theorem dat_lay : ∀ (k : Nat) (d : D), D.dat k d = true → PyData.canLay0 (D.toP k d) = true ∧ (D.toP k d).depth ≤ k
  | 0, .non, _ => ⟨by simp [D.toP, PyData.canLay0], by simp [D.toP, PyData.depth]⟩
  | 0, .bl _, _ => ⟨by simp [D.toP, PyData.canLay0], by simp [D.toP, PyData.depth]⟩
  | 0, .int _, _ => ⟨by simp [D.toP, PyData.canLay0], by simp [D.toP, PyData.depth]⟩
  | 0, .str x, h => ⟨by simpa [D.toP, D.dat] using h, by simp [D.toP, PyData.depth]⟩
  | 0, .tup _, h => by simp [D.dat] at h
  | 0, .lst _, h => by simp [D.dat] at h
  | 0, .fn _, h => by simp [D.dat] at h
  | 0, .clo _, h => by simp [D.dat] at h
  | 0, .loc _, h => by simp [D.dat] at h
  | 0, .scr _, h => by simp [D.dat] at h
  | k + 1, .non, _ => ⟨by simp [D.toP, PyData.canLay0], by simp [D.toP, PyData.depth]⟩
  | k + 1, .bl _, _ => ⟨by simp [D.toP, PyData.canLay0], by simp [D.toP, PyData.depth]⟩
  | k + 1, .int _, _ => ⟨by simp [D.toP, PyData.canLay0], by simp [D.toP, PyData.depth]⟩
  | k + 1, .str x, h => ⟨by simpa [D.toP, D.dat] using h, by simp [D.toP, PyData.depth]⟩
  | k + 1, .tup ds, h => by
    obtain ⟨a, b⟩ := layAll ds (by simpa [D.dat] using h) (dat_lay k)
    exact ⟨by simpa [D.toP, PyData.canLay0] using a, by simpa [D.toP, PyData.depth] using b⟩
  | k + 1, .lst ds, h => by
    obtain ⟨a, b⟩ := layAll ds (by simpa [D.dat] using h) (dat_lay k)
    exact ⟨by simpa [D.toP, PyData.canLay0] using a, by simpa [D.toP, PyData.depth] using b⟩
  | k + 1, .fn _, h => by simp [D.dat] at h
  | k + 1, .clo _, h => by simp [D.dat] at h
  | k + 1, .loc _, h => by simp [D.dat] at h
  | k + 1, .scr _, h => by simp [D.dat] at h
theorem dat_shaped {k : Nat} {d : D} (h : D.dat k d = true) (hk : k ≤ 64) : SeqAt.shaped (D.toP k d) = true := by
  obtain ⟨a, b⟩ := dat_lay k d h
  unfold SeqAt.shaped
  rw [a, Bool.true_and]
  exact decide_eq_true (by omega)
end PD


set_option Elab.async false
set_option linter.all false
set_option maxRecDepth 100000
set_option maxHeartbeats 4000000
/-! PD2: states, readings by a pure function, operators. -/
namespace PD
open PySem PySem.Spec PyProof.Rows L2 LamX NdefX

def hid (L : List Addr) (H : Hp) : Hp := fun a => if a ∈ L then none else H a
theorem hid_some {L : List Addr} {H : Hp} {a : Addr} {o : HO} (h : hid L H a = some o) : a ∉ L ∧ H a = some o := by
  unfold hid at h
  split at h
  · cases h
  · rename_i hn
    exact ⟨hn, h⟩
theorem hid_of {L : List Addr} {H : Hp} {a : Addr} {o : HO} (hn : a ∉ L) (h : H a = some o) : hid L H a = some o := by
  unfold hid
  rw [if_neg hn]
  exact h
theorem hid_sta (L : List Addr) (H : Hp) : Sta (hid L H) H := fun _ _ h _ => (hid_some h).2

/-- O: hidden lists that are being made; L: the places -/
structure Ext (O : List Addr) (L : List Addr) (H : Hp) (L' : List Addr) (H' : Hp) : Prop where
  pre : L <+: L'
  sta : Sta (hid (O ++ L) H) (hid (O ++ L') H')
  obs : ∀ a ∈ O, H' a = H a
theorem Ext.refl {O : List Addr} (L : List Addr) (H : Hp) : Ext O L H L H := ⟨List.prefix_refl _, ExtN.refl _, fun _ _ => rfl⟩
theorem Ext.trans {O L L1 L2 : List Addr} {H H1 H2 : Hp} (a : Ext O L H L1 H1) (b : Ext O L1 H1 L2 H2) : Ext O L H L2 H2 := ⟨a.pre.trans b.pre, a.sta.trans b.sta, fun c hc => (b.obs c hc).trans (a.obs c hc)⟩

def MRep (B : Bs) (O L : List Addr) (H : Hp) (a : Addr) : MO → Prop
  | .lst ds => ∃ vs, H a = some (.lst vs) ∧ Reps B L (hid (O ++ L) H) vs ds
  | .dct kvs => ∃ ws : List (Key × V), H a = some (.dK ws) ∧ ws.map (·.1) = kvs.map (fun p => (Sum.inl p.1 : Key)) ∧ Reps B L (hid (O ++ L) H) (ws.map (·.2)) (kvs.map (·.2))
structure StoOk (B : Bs) (O L : List Addr) (H : Hp) (S : Sto) : Prop where
  len : L.length = S.length
  nd : L.Nodup
  at_ : ∀ (n : Nat) (o : MO), S[n]? = some o → ∃ a, L[n]? = some a ∧ MRep B O L H a o
  obs : ∀ a ∈ O, (∃ xs, H a = some (.lst xs)) ∧ a ∉ L
structure StOk (B : Bs) (O : List Addr) (σ : L2.St) (H : Hp) (ρ : Env) (S : Sto) (L : List Addr) : Prop where
  env : ∀ (i : Nat) (d : D), ρ[i]? = some (some d) → ∃ v, σ[i]? = some (some v) ∧ Rep B L (hid (O ++ L) H) v d
  len : ρ.length = σ.length
  sto : StoOk B O L H S
  tab : TabsN B.tabs H
section
variable {B : Bs} {O L L1 L' : List Addr} {H H1 H' : Hp} {S S' : Sto} {σ : L2.St} {ρ : Env} {v : V} {d : D} {vs : List V} {ds : List D}
theorem Rep.ext (r : Rep B L (hid (O ++ L) H) v d) (e : Ext O L H L' H') : Rep B L' (hid (O ++ L') H') v d := Rep.mono e.pre e.sta d v r
theorem Reps.ext (r : Reps B L (hid (O ++ L) H) vs ds) (e : Ext O L H L' H') : Reps B L' (hid (O ++ L') H') vs ds := Reps.mono e.pre e.sta ds vs r
theorem Rep.full (r : Rep B L (hid (O ++ L) H) v d) : Rep B L H v d := Rep.mono (List.prefix_refl _) (hid_sta (O ++ L) H) d v r
theorem Reps.full (r : Reps B L (hid (O ++ L) H) vs ds) : Reps B L H vs ds := Reps.mono (List.prefix_refl _) (hid_sta (O ++ L) H) ds vs r
theorem StOk.ext (s : StOk B O σ H ρ S L) (e : Ext O L H L' H') (o : StoOk B O L' H' S') (t : TabsN B.tabs H') : StOk B O σ H' ρ S' L' :=
  ⟨fun i d h => let ⟨v, h1, h2⟩ := s.env i d h; ⟨v, h1, h2.ext e⟩, s.len, o, t⟩
theorem StoOk.there (o : StoOk B O L H S) {a : Addr} (h : a ∈ O ++ L) : ∃ u, H a = some u := by
  rcases List.mem_append.mp h with h | h
  · obtain ⟨xs, e⟩ := (o.obs a h).1
    exact ⟨_, e⟩
  obtain ⟨n, hn⟩ := List.mem_iff_getElem?.mp h
  have hl : n < S.length := by
    rw [← o.len]
    exact (List.getElem?_eq_some_iff.mp hn).1
  obtain ⟨b, hb, m⟩ := o.at_ n S[n] (List.getElem?_eq_getElem hl)
  rw [hn] at hb
  cases hb
  cases e : S[n] with
  | lst ds =>
    rw [e] at m
    obtain ⟨vs, q, _⟩ := m
    exact ⟨_, q⟩
  | dct ds =>
    rw [e] at m
    obtain ⟨vs, q, _⟩ := m
    exact ⟨_, q⟩
/-- a new object lies outside of the places -/
theorem StoOk.fresh (o : StoOk B O L H S) {p : Addr} (h : H p = none) : p ∉ O ++ L := fun z => by
  obtain ⟨u, q⟩ := o.there z
  rw [h] at q
  cases q
theorem hid_upd {M : List Addr} {p : Addr} {o : HO} (hp : p ∉ M) (h : H p = none) : ∀ b u, hid M H b = some u → hid M (upd H p o) b = some u := fun b u q => by
  obtain ⟨hn, hq⟩ := hid_some q
  exact hid_of hn (by rw [upd_ne (ne_of_none hq h)]; exact hq)
theorem Ext.new {p : Addr} {o : HO} (hp : p ∉ O ++ L) (h : H p = none) : Ext O L H L (upd H p o) :=
  ⟨List.prefix_refl _, ExtN.of (hid_upd hp h), fun a ha => upd_ne fun z => hp (List.mem_append_left _ (z ▸ ha))⟩
theorem MRep.ext {a : Addr} {o : MO} (m : MRep B O L H a o) (e : Ext O L H L' H') (k : H' a = H a) : MRep B O L' H' a o := by
  cases o with
  | lst ds =>
    obtain ⟨vs, h1, h2⟩ := m
    exact ⟨vs, by rw [k]; exact h1, h2.ext e⟩
  | dct ds =>
    obtain ⟨vs, h1, h2, h3⟩ := m
    exact ⟨vs, by rw [k]; exact h1, h2, h3.ext e⟩
theorem StoOk.new {p : Addr} {u : HO} (o : StoOk B O L H S) (h : H p = none) : StoOk B O L (upd H p u) S :=
  ⟨o.len, o.nd, fun n m hm => by
    obtain ⟨a, ha, q⟩ := o.at_ n m hm
    exact ⟨a, ha, q.ext (Ext.new (o.fresh h) h) (upd_ne (fun z => o.fresh h (by rw [← z]; exact List.mem_append_right _ (List.mem_of_getElem? ha))))⟩,
   fun a ha => ⟨by
    have q : a ≠ p := fun z => o.fresh h (List.mem_append_left _ (by rw [← z]; exact ha))
    rw [upd_ne q]
    exact (o.obs a ha).1, (o.obs a ha).2⟩⟩
theorem TabsN.new {T : List NTab} {p : Addr} {u : HO} (t : TabsN T H) (h : H p = none) : TabsN T (upd H p u) := t.ext fun b o e => by rw [upd_ne (ne_of_none e h)]; exact e

/-- what is wanted of an answer -/
def Post (B : Bs) (O L : List Addr) (H : Hp) (Q : VK) : D → Sto → Prop := fun d S' => ∀ v H' L', Ext O L H L' H' → Rep B L' (hid (O ++ L') H') v d → StoOk B O L' H' S' → TabsN B.tabs H' → Q v H'
def PostB (B : Bs) (O L : List Addr) (H : Hp) (Q : Bool → Hp → Prop) : Bool → Sto → Prop := fun b S' => ∀ H' L', Ext O L H L' H' → StoOk B O L' H' S' → TabsN B.tabs H' → Q b H'
def PostL (B : Bs) (O L : List Addr) (H : Hp) (Q : List V → Hp → Prop) : List D → Sto → Prop := fun ds S' => ∀ vs H' L', Ext O L H L' H' → Reps B L' (hid (O ++ L') H') vs ds → StoOk B O L' H' S' → TabsN B.tabs H' → Q vs H'
theorem Post.ext {Q : VK} (p : Post B O L H Q d S) (e : Ext O L H L1 H1) : Post B O L1 H1 Q d S := fun v H' L' e' => p v H' L' (e.trans e')
theorem PostB.ext {Q : Bool → Hp → Prop} {b : Bool} (p : PostB B O L H Q b S) (e : Ext O L H L1 H1) : PostB B O L1 H1 Q b S := fun H' L' e' => p H' L' (e.trans e')
theorem PostL.ext {Q : List V → Hp → Prop} (p : PostL B O L H Q ds S) (e : Ext O L H L1 H1) : PostL B O L1 H1 Q ds S := fun v H' L' e' => p v H' L' (e.trans e')
theorem Post.here {Q : VK} (p : Post B O L H Q d S) (o : StoOk B O L H S) (t : TabsN B.tabs H) (r : Rep B L (hid (O ++ L) H) v d) : Q v H := p v H L (Ext.refl L H) r o t
theorem Post.newT {Q : VK} {p : Addr} (q : Post B O L H Q (.tup ds) S) (o : StoOk B O L H S) (t : TabsN B.tabs H) (r : Reps B L (hid (O ++ L) H) vs ds) (h : H p = none) : Q (.ref p) (upd H p (.tup vs)) :=
  q _ _ L (Ext.new (o.fresh h) h) (.tup (.inl (.inl (hid_of (o.fresh h) upd_same))) (r.ext (Ext.new (o.fresh h) h))) (o.new h) (TabsN.new t h)
theorem Post.newL {Q : VK} {p : Addr} (q : Post B O L H Q (.lst ds) S) (o : StoOk B O L H S) (t : TabsN B.tabs H) (r : Reps B L (hid (O ++ L) H) vs ds) (h : H p = none) : Q (.ref p) (upd H p (.lst vs)) :=
  q _ _ L (Ext.new (o.fresh h) h) (.lst (.inl (hid_of (o.fresh h) upd_same)) (r.ext (Ext.new (o.fresh h) h))) (o.new h) (TabsN.new t h)
end

/-! ### readings -/
abbrev MD := Env → Sto → R D
abbrev MB := Env → Sto → R Bool
abbrev ML := Env → Sto → R (List D)
def tD (B : Bs) (f : MD) : TE := fun σ H Q => ∃ ρ S O L, StOk B O σ H ρ S L ∧ (f ρ S).sat (Post B O L H Q)
def tT (B : Bs) (f : MB) : TT := fun σ H Q => ∃ ρ S O L, StOk B O σ H ρ S L ∧ (f ρ S).sat (PostB B O L H Q)
def tA (B : Bs) (f : ML) : TA := fun σ H Q => ∃ ρ S O L, StOk B O σ H ρ S L ∧ (f ρ S).sat (PostL B O L H Q)
section
variable {X : Cx} {e : Expr}
theorem peW {t t' : TE} (h : PE X e t) (w : ∀ σ H Q, t' σ H Q → t σ H Q) : PE X e t' := ⟨fun pins s σ H Q I q => h.run pins s σ H Q I (w σ H Q q)⟩
theorem ptW {t t' : TT} (h : PT X e t) (w : ∀ σ H Q, t' σ H Q → t σ H Q) : PT X e t' := ⟨fun pins s σ H Q I q => h.run pins s σ H Q I (w σ H Q q)⟩
theorem pwW {t t' : TT} (h : PW X e t) (w : ∀ σ H Q, t' σ H Q → t σ H Q) : PW X e t' := ⟨fun wh pins s σ H Q I q => h.run wh pins s σ H Q I (w σ H Q q)⟩
theorem paW {es : List Expr} {t t' : TA} (h : PA X es t) (w : ∀ σ H Q, t' σ H Q → t σ H Q) : PA X es t' := ⟨fun p pins s σ H Q I q => h.run p pins s σ H Q I (w σ H Q q)⟩
end

/-! ### sequences of data -/
def lim : Nat := 1000000
theorem lim_line {n : Nat} (h : n ≤ lim) : n ≤ sizeLine := by
  rw [sizeLine_eq]
  unfold lim at h
  omega
def tupD : D → Option (List D)
  | .tup xs => some xs
  | _ => none
def MO.asL : Option MO → Option (List D)
  | some (.lst xs) => some xs
  | _ => none
def lstD (S : Sto) : D → Option (List D)
  | .lst xs => some xs
  | .loc n => MO.asL S[n]?
  | _ => none
theorem asL_some {o : Option MO} {xs : List D} (h : MO.asL o = some xs) : o = some (.lst xs) := by
  cases o with
  | none => cases h
  | some m =>
    cases m with
    | lst ys => cases h; rfl
    | dct ys => cases h
def seqD (S : Sto) (d : D) : Option (List D) := match d with
  | .tup xs => some xs
  | .scr xs => some xs
  | d => lstD S d
/-- a list at a place, as data -/
def der (S : Sto) : D → D
  | .loc n => match MO.asL S[n]? with
    | some xs => .lst xs
    | none => .loc n
  | d => d
section
variable {B : Bs} {O L : List Addr} {H : Hp} {S : Sto} {v : V} {d : D} {xs : List D}
theorem tup_of (r : Rep B L (hid (O ++ L) H) v d) (h : tupD d = some xs) : ∃ a vs, v = .ref a ∧ SqT B.K H a vs ∧ Reps B L (hid (O ++ L) H) vs xs := by
  cases d with
  | tup ys =>
    cases h
    cases r with
    | tup h1 h2 => exact ⟨_, _, rfl, (hid_sta _ H).seqT h1, h2⟩
  | _ => cases h
theorem lst_of (o : StoOk B O L H S) (r : Rep B L (hid (O ++ L) H) v d) (h : lstD S d = some xs) : ∃ a vs, v = .ref a ∧ Rd H a (.lst vs) ∧ Reps B L (hid (O ++ L) H) vs xs := by
  cases d with
  | lst ys =>
    cases h
    cases r with
    | lst h1 h2 => exact ⟨_, _, rfl, (hid_sta _ H).rdL h1, h2⟩
  | loc n =>
    cases r with
    | loc h1 =>
      have q : S[n]? = some (.lst xs) := asL_some h
      obtain ⟨a, ha, vs, h2, h3⟩ := o.at_ n _ q
      rw [h1] at ha
      cases ha
      exact ⟨_, vs, rfl, .inl h2, h3⟩
  | _ => cases h
theorem seq_of (o : StoOk B O L H S) (r : Rep B L (hid (O ++ L) H) v d) (h : seqD S d = some xs) : ∃ a vs, v = .ref a ∧ (SqL B.K H a vs ∨ SqT B.K H a vs) ∧ Reps B L (hid (O ++ L) H) vs xs := by
  unfold seqD at h
  split at h
  · cases h
    obtain ⟨a, vs, h1, h2, h3⟩ := tup_of r rfl
    exact ⟨a, vs, h1, .inr h2, h3⟩
  · cases h
    cases r with
    | scr h1 h2 => exact ⟨_, _, rfl, .inl ((hid_sta _ H).seqL h1), h2⟩
  · obtain ⟨a, vs, h1, h2, h3⟩ := lst_of o r h
    exact ⟨a, vs, h1, .inl (.inl h2), h3⟩
theorem der_of (o : StoOk B O L H S) (r : Rep B L (hid (O ++ L) H) v d) : Rep B L H v (der S d) := by
  cases d with
  | loc n =>
    show Rep B L H v (match MO.asL S[n]? with
      | some xs => .lst xs
      | none => .loc n)
    cases q : MO.asL S[n]? with
    | none => exact r.full
    | some ys =>
      obtain ⟨a, vs, rfl, h2, h3⟩ := lst_of (xs := ys) o r q
      exact .lst h2 h3.full
  | _ => exact r.full
end

/-! ### operators -/
/-- a reading of values asks no more than the function's answer -/
def OpS (B : Bs) (r : R2) (sem : D → D → Sto → R D) : Prop := ∀ (x y : D) (v w : V) (H : Hp) (O L : List Addr) (S : Sto) (Q : VK), StoOk B O L H S → TabsN B.tabs H → Rep B L (hid (O ++ L) H) v x → Rep B L (hid (O ++ L) H) w y → (sem x y S).sat (Post B O L H Q) → r v w H Q
def UnS (B : Bs) (r : V → Hp → VK → Prop) (sem : D → Sto → R D) : Prop := ∀ (x : D) (v : V) (H : Hp) (O L : List Addr) (S : Sto) (Q : VK), StoOk B O L H S → TabsN B.tabs H → Rep B L (hid (O ++ L) H) v x → (sem x S).sat (Post B O L H Q) → r v H Q
def CaS (B : Bs) (r : List V → Hp → VK → Prop) (sem : List D → Sto → R D) : Prop := ∀ (xs : List D) (vs : List V) (H : Hp) (O L : List Addr) (S : Sto) (Q : VK), StoOk B O L H S → TabsN B.tabs H → Reps B L (hid (O ++ L) H) vs xs → (sem xs S).sat (Post B O L H Q) → r vs H Q
def m2 (fa fb : MD) (sem : D → D → Sto → R D) : MD := fun ρ S => (fa ρ S).bind fun x S1 => (fb ρ S1).bind fun y S2 => sem x y S2
def m1 (fa : MD) (sem : D → Sto → R D) : MD := fun ρ S => (fa ρ S).bind fun x S1 => sem x S1
def mL (fa : ML) (sem : List D → Sto → R D) : MD := fun ρ S => (fa ρ S).bind fun x S1 => sem x S1
section
variable {X : Cx} {B : Bs} {a b : Expr} {fa fb : MD} {pos : Pos} {r : R2} {sem : D → D → Sto → R D}
theorem w_op (hs : OpS B r sem) {σ : L2.St} {H : Hp} {Q : VK} (h : tD B (m2 fa fb sem) σ H Q) : tOp r (tD B fa) (tD B fb) σ H Q := by
  obtain ⟨ρ, S, O, L, st, h⟩ := h
  unfold m2 at h
  rw [R.sat_bind] at h
  refine ⟨ρ, S, O, L, st, R.sat_mono h fun x S1 h1 v H1 L1 e1 r1 o1 t1 => ?_⟩
  rw [R.sat_bind] at h1
  refine ⟨ρ, S1, O, L1, st.ext e1 o1 t1, R.sat_mono h1 fun y S2 h2 w H2 L2 e2 r2 o2 t2 => ?_⟩
  exact hs x y v w H2 O L2 S2 Q o2 t2 (r1.ext e2) r2 (R.sat_mono h2 fun d S' p => p.ext (e1.trans e2))
theorem de_op {op : Operator} (ho : OpR X (binaryOp op) r) (hs : OpS B r sem) (ha : PE X a (tD B fa)) (hb : PE X b (tD B fb)) : PE X (.BinOp a op b pos) (tD B (m2 fa fb sem)) :=
  peW (pe_op ho ha hb) fun _ _ _ h => w_op hs h
theorem de_cmp {op : CmpOp} (ho : OpR X (compareOp op) r) (hs : OpS B r sem) (ha : PE X a (tD B fa)) (hb : PE X b (tD B fb)) (hm : behindInMarks op b = false) : PE X (.Compare a [op] [b] pos) (tD B (m2 fa fb sem)) :=
  peW (pe_cmpR ho ha hb hm) fun _ _ _ h => w_op hs h
theorem de_ix (ho : IxR X r) (hs : OpS B r sem) (ha : PE X a (tD B fa)) (hb : PE X b (tD B fb)) (hp : PlainIx b) : PE X (.Subscript a b pos) (tD B (m2 fa fb sem)) :=
  peW (pe_ix ho ha hb hp) fun _ _ _ h => w_op hs h
theorem de_un {op : UnaryOp} {r : V → Hp → VK → Prop} {sem : D → Sto → R D} (ho : UnR X (unaryOp op) r) (hs : UnS B r sem) (ha : PE X a (tD B fa)) : PE X (.UnaryOp op a pos) (tD B (m1 fa sem)) := by
  refine peW (pe_un ho ha) fun σ H Q h => ?_
  obtain ⟨ρ, S, O, L, st, h⟩ := h
  unfold m1 at h
  rw [R.sat_bind] at h
  refine ⟨ρ, S, O, L, st, R.sat_mono h fun x S1 h1 v H1 L1 e1 r1 o1 t1 => ?_⟩
  exact hs x v H1 O L1 S1 Q o1 t1 r1 (R.sat_mono h1 fun d S' p => p.ext e1)
end

/-! #### x + y -/
def addS (x y : D) (S : Sto) : R D := match x, y with
  | .int i, .int j => .ok (.int (i + j)) S
  | .str a, .str b => guardR (decide (a.length + b.length ≤ lim)) (.ok (.str (a ++ b)) S)
  | .tup a, .tup b => guardR (decide (a.length + b.length ≤ lim)) (.ok (.tup (a ++ b)) S)
  | x, y => match lstD S x, lstD S y with
    | some a, some b => guardR (decide (a.length + b.length ≤ lim)) (.ok (.lst (a ++ b)) S)
    | _, _ => .bad
def rCatL : R2 := fun x y H Q => ∃ l b xs zs, x = .ref l ∧ y = .ref b ∧ Rd H l (.lst xs) ∧ Rd H b (.lst zs) ∧ xs.length + zs.length ≤ sizeLine ∧ ∀ p, H p = none → Q (.ref p) (upd H p (.lst (xs ++ zs)))
theorem op_catL {X : Cx} : OpR X (binaryOp .Add) rCatL := by
  intro pins s σ H x y v u Q I rx ry h
  obtain ⟨l, b, xs, zs, rfl, rfl, hH, hB, hz, q⟩ := h
  cases rx
  cases ry
  obtain ⟨z1, its, n, r, e⟩ := hH.ok I.hok
  obtain ⟨z2, its2, n2, r2, e2⟩ := hB.ok I.hok
  have e1 := r.length
  have e3 := r2.length
  refine PySem.P.add_list e e2 ?_ (by simp only [List.size_toArray]; omega)
  rw [show its.toArray ++ its2.toArray = (its ++ its2).toArray by simp]
  exact ⟨.ref _, _, I.lnew (t' := s.toks) (r.append r2) (by rw [List.length_append]; omega), rfl, q _ I.fresh⟩
def rAddA (K : PySem.W.Frag) : R2 := fun x y H Q => (rI0 (fun i j => .int (i + j)) x y H Q ∨ (∃ i j, x = .str i ∧ y = .str j ∧ i.length + j.length ≤ sizeLine ∧ Q (.str (i ++ j)) H)) ∨ (rCatA K x y H Q ∨ rCatL x y H Q)
theorem op_addA {X : Cx} : OpR X (binaryOp .Add) (rAddA X.K) := (op_add.or op_add_str).or (op_catA.or op_catL)
theorem nil_of_rep {B : Bs} {L : List Addr} {H : Hp} {ds : List D} (r : Reps B L H [] ds) : ds = [] := by
  cases r
  rfl
theorem s_add {B : Bs} : OpS B (rAddA B.K) addS := by
  intro x y v w H O L S Q o t rx ry h
  unfold addS at h
  split at h
  · cases rx
    cases ry
    exact .inl (.inl ⟨_, _, rfl, rfl, h.here o t (.int _)⟩)
  · cases rx
    cases ry
    obtain ⟨hz, h⟩ := sat_guard.mp h
    exact .inl (.inr ⟨_, _, rfl, rfl, lim_line (of_decide_eq_true hz), h.here o t (.str _)⟩)
  · obtain ⟨a, vs, rfl, h1, h2⟩ := tup_of rx rfl
    obtain ⟨b, ws, rfl, h3, h4⟩ := tup_of ry rfl
    obtain ⟨hz, h⟩ := sat_guard.mp h
    have e1 := h2.length
    have e2 := h4.length
    have hz := lim_line (of_decide_eq_true hz)
    refine .inr (.inl ⟨a, b, vs, ws, rfl, rfl, h1, h3, by omega, fun z => ?_, fun z z' => ?_, fun z z' p hp => ?_⟩)
    · subst z
      rw [nil_of_rep h2, List.nil_append] at h
      exact h.here o t ry
    · subst z'
      rw [nil_of_rep h4, List.append_nil] at h
      exact h.here o t rx
    · exact Post.newT h o t (h2.app h4) hp
  · split at h
    · rename_i e1 e2
      obtain ⟨a, vs, rfl, h1, h2⟩ := lst_of o rx e1
      obtain ⟨b, ws, rfl, h3, h4⟩ := lst_of o ry e2
      obtain ⟨hz, h⟩ := sat_guard.mp h
      have e3 := h2.length
      have e4 := h4.length
      have hz := lim_line (of_decide_eq_true hz)
      exact .inr (.inr ⟨a, b, vs, ws, rfl, rfl, h1, h3, by omega, fun p hp => Post.newL h o t (h2.app h4) hp⟩)
    · exact h.elim

/-! #### - * % // of ints -/
def intS (g : Int → Int → Option Int) (x y : D) (S : Sto) : R D := match x, y with
  | .int i, .int j => match g i j with
    | some k => .ok (.int k) S
    | none => .bad
  | _, _ => .bad
theorem s_int {B : Bs} {C : Int → Int → Prop} {f : Int → Int → Int} {g : Int → Int → Option Int} (hg : ∀ i j k, g i j = some k → C i j ∧ k = f i j) : OpS B (rI C fun i j => .int (f i j)) (intS g) := by
  intro x y v w H O L S Q o t rx ry h
  unfold intS at h
  split at h
  · split at h
    · rename_i k e
      cases rx
      cases ry
      obtain ⟨c, rfl⟩ := hg _ _ _ e
      exact ⟨_, _, rfl, rfl, c, h.here o t (.int _)⟩
    · exact h.elim
  · exact h.elim
theorem s_int0 {B : Bs} {f : Int → Int → Int} : OpS B (rI0 fun i j => .int (f i j)) (intS fun i j => some (f i j)) := by
  intro x y v w H O L S Q o t rx ry h
  unfold intS at h
  split at h
  · cases rx
    cases ry
    exact ⟨_, _, rfl, rfl, h.here o t (.int _)⟩
  · exact h.elim
def gMul (i j : Int) : Option Int := if (Nat.ble i.natAbs 18446744073709551615 || Nat.ble j.natAbs 18446744073709551615) = true then some (i * j) else none
def gMod (i j : Int) : Option Int := if 0 < j then some (i % j) else none
def gDiv (i j : Int) : Option Int := if 0 < j ∧ Nat.ble j.natAbs 1073741823 = true then some (i / j) else none
def gPow (i j : Int) : Option Int := if (0 ≤ j ∧ j ≤ 1000) ∧ Nat.ble i.natAbs 18446744073709551615 = true then some (i ^ j.toNat) else none
theorem s_mul {B : Bs} : OpS B (rI CMul fun i j => .int (i * j)) (intS gMul) := s_int fun i j k e => by
  unfold gMul at e
  split at e
  · rename_i c
    cases e
    refine ⟨?_, rfl⟩
    unfold CMul
    rcases Bool.or_eq_true_iff.mp c with c | c
    · have := Nat.le_of_ble_eq_true c
      exact .inl ⟨by omega, by omega⟩
    · have := Nat.le_of_ble_eq_true c
      exact .inr ⟨by omega, by omega⟩
  · cases e
theorem s_mod {B : Bs} : OpS B (rI (fun _ j => 0 < j) fun i j => .int (i % j)) (intS gMod) := s_int fun i j k e => by
  unfold gMod at e
  split at e
  · rename_i c
    cases e
    exact ⟨c, rfl⟩
  · cases e
theorem s_div {B : Bs} : OpS B (rI CDiv fun i j => .int (i / j)) (intS gDiv) := s_int fun i j k e => by
  unfold gDiv at e
  split at e
  · rename_i c
    cases e
    have := Nat.le_of_ble_eq_true c.2
    exact ⟨⟨c.1, by omega⟩, rfl⟩
  · cases e
theorem s_pow {B : Bs} : OpS B (rI CPow fun i j => .int (i ^ j.toNat)) (intS gPow) := s_int fun i j k e => by
  unfold gPow at e
  split at e
  · rename_i c
    cases e
    have := Nat.le_of_ble_eq_true c.2
    exact ⟨⟨c.1.1, by omega, by omega⟩, rfl⟩
  · cases e
def negS (x : D) (S : Sto) : R D := match x with
  | .int i => .ok (.int (-i)) S
  | _ => .bad
theorem s_neg {B : Bs} : UnS B (rU fun i => .int (-i)) negS := by
  intro x v H O L S Q o t rx h
  unfold negS at h
  split at h
  · cases rx
    exact ⟨_, rfl, h.here o t (.int _)⟩
  · exact h.elim

/-! #### comparisons -/
def dep : Nat := 20
def eqD (x y : D) : Bool := PyData.eqv (D.toP dep x) (D.toP dep y)
def ltD (x y : D) : Bool := PySem.W.dataLt (D.toP dep x) (D.toP dep y)
def isNonP : PyData → Bool
  | .none => true
  | _ => false
/-- two of a kind that < tells -/
def ordD (x y : D) : Bool := D.dat dep x && D.dat dep y && PySem.W.alike (D.toP dep x) (D.toP dep y) && !isNonP (D.toP dep x)
def datS (x : D) : Bool := D.dat dep x
/-- by data: the answer of two that are data -/
def cmpS (ok : D → D → Bool) (g : D → D → Bool) (x y : D) (S : Sto) : R D := guardR (ok (der S x) (der S y)) (.ok (.bl (g (der S x) (der S y))) S)
def bothD (x y : D) : Bool := D.dat dep x && D.dat dep y
theorem s_cmp {B : Bs} {r : R2} {ok g : D → D → Bool} (h : ∀ x y v w H L (Q : VK), Rep B L H v x → Rep B L H w y → ok x y = true → Q (.bl (g x y)) H → r v w H Q) : OpS B r (cmpS ok g) := by
  intro x y v w H O L S Q o t rx ry q
  obtain ⟨hk, q⟩ := sat_guard.mp q
  exact h _ _ v w H L Q (der_of o rx) (der_of o ry) hk (q.here o t (.bl _))
theorem and4 {a b c d : Bool} (h : (a && b && c && d) = true) : a = true ∧ b = true ∧ c = true ∧ d = true := by
  cases a <;> cases b <;> cases c <;> cases d <;> simp at h ⊢
theorem and2 {a b : Bool} (h : (a && b) = true) : a = true ∧ b = true := by
  cases a <;> cases b <;> simp at h ⊢
theorem s_eq {B : Bs} : OpS B (rEqD B.K) (cmpS bothD eqD) := s_cmp fun x y v w H L Q rx ry hk q => by
  obtain ⟨h1, h2⟩ := and2 hk
  exact ⟨_, _, Rep.dp _ x v h1 rx, Rep.dp _ y w h2 ry, dat_shaped h1 (by decide), dat_shaped h2 (by decide), q⟩
theorem s_ne {B : Bs} : OpS B (rNeD B.K) (cmpS bothD fun x y => !eqD x y) := s_cmp fun x y v w H L Q rx ry hk q => by
  obtain ⟨h1, h2⟩ := and2 hk
  exact ⟨_, _, Rep.dp _ x v h1 rx, Rep.dp _ y w h2 ry, dat_shaped h1 (by decide), dat_shaped h2 (by decide), q⟩
/-- < and its like, over data -/
def rOrd (K : PySem.W.Frag) (g : PyData → PyData → Bool) : R2 := fun x y H Q => ∃ d e, Dp K H x d ∧ Dp K H y e ∧ SeqAt.shaped d = true ∧ PySem.W.alike d e = true ∧ d ≠ .none ∧ Q (.bl (g d e)) H
section
variable {X : Cx}
theorem op_ord {op : CmpOp} {g : PyData → PyData → Bool} (hu : X.A.units + 64 < cLine)
    (rule : ∀ {s : Shared} {a b : Value} {da db : PyData} {as bs : List Addr} {Q : Value → Shared → Prop}, Reads s.heap a da as → Reads s.heap b db bs → PySem.W.alike da db = true → da ≠ .none → X.A.units + min da.depth db.depth < cLine → Q (.bool (g da db)) s → wpAny (model X.prog X.w) X.A (compareOp op a b) Q X.xe s) : OpR X (compareOp op) (rOrd X.K g) := by
  intro pins s σ H x y v u Q I rx ry h
  obtain ⟨d, e, hd, he, sd, al, nn, q⟩ := h
  obtain ⟨as, r1⟩ := Dp.reads I d x v hd rx
  obtain ⟨bs, r2⟩ := Dp.reads I e y u he ry
  exact rule r1 r2 al nn (SeqAt.room_of_shaped sd hu) ⟨.bl _, H, I, rfl, q⟩
theorem op_ltA (hu : X.A.units + 64 < cLine) : OpR X (compareOp .Lt) (rOrd X.K fun d e => PySem.W.dataLt d e) := op_ord hu fun a b c d e f => PySem.W.lt_data a b c d e f
theorem op_gtA (hu : X.A.units + 64 < cLine) : OpR X (compareOp .Gt) (rOrd X.K fun d e => PySem.W.dataLt e d) := op_ord hu fun a b c d e f => PySem.W.gt_data a b c d e f
theorem op_leA (hu : X.A.units + 64 < cLine) : OpR X (compareOp .LtE) (rOrd X.K fun d e => !PySem.W.dataLt e d) := op_ord hu fun a b c d e f => PySem.W.le_data a b c d e f
theorem op_geA (hu : X.A.units + 64 < cLine) : OpR X (compareOp .GtE) (rOrd X.K fun d e => !PySem.W.dataLt d e) := op_ord hu fun a b c d e f => PySem.W.ge_data a b c d e f
end
theorem nn_of {d : PyData} (h : (!isNonP d) = true) : d ≠ .none := by
  rintro rfl
  simp [isNonP] at h
theorem s_ord {B : Bs} {g : PyData → PyData → Bool} : OpS B (rOrd B.K g) (cmpS ordD fun x y => g (D.toP dep x) (D.toP dep y)) := s_cmp fun x y v w H L Q rx ry hk q => by
  obtain ⟨h1, h2, h3, h4⟩ := and4 hk
  exact ⟨_, _, Rep.dp _ x v h1 rx, Rep.dp _ y w h2 ry, dat_shaped h1 (by decide), h3, nn_of h4, q⟩
/-! in, not in -/
def rInS (K : PySem.W.Frag) (neg : Bool) : R2 := fun x y H Q => ∃ d ds, Dp K H x d ∧ (Dp K H y (.list ds) ∨ Dp K H y (.tuple ds)) ∧ SeqAt.shaped d = true ∧ PyData.canLayAll0 ds = true ∧ Q (.bl (if neg then !ds.any fun z => PyData.eqv z d else ds.any fun z => PyData.eqv z d)) H
theorem room_in {d : PyData} {ds : List PyData} {A : Around} (h : SeqAt.shaped d = true) (hu : A.units + 65 < cLine) : A.units + 1 + min (PyData.depthAll ds) d.depth < cLine := by
  have := SeqAt.depth_of_shaped h
  omega
theorem op_inA {X : Cx} (hu : X.A.units + 65 < cLine) : OpR X (compareOp .In) (rInS X.K false) := by
  intro pins s σ H x y v u Q I rx ry h
  obtain ⟨d, ds, hd, he | he, sd, se, q⟩ := h
  · obtain ⟨as, r1⟩ := Dp.reads I d x v hd rx
    obtain ⟨bs, r2⟩ := Dp.reads I _ y u he ry
    exact SeqAt.in_list_reads r2 r1 se (SeqAt.canLay_of_shaped sd) (room_in sd hu) ⟨.bl _, H, I, rfl, q⟩
  · obtain ⟨as, r1⟩ := Dp.reads I d x v hd rx
    obtain ⟨bs, r2⟩ := Dp.reads I _ y u he ry
    exact SeqAt.in_tuple_reads r2 r1 se (SeqAt.canLay_of_shaped sd) (room_in sd hu) ⟨.bl _, H, I, rfl, q⟩
theorem op_notInA {X : Cx} (hu : X.A.units + 65 < cLine) : OpR X (compareOp .NotIn) (rInS X.K true) := by
  intro pins s σ H x y v u Q I rx ry h
  obtain ⟨d, ds, hd, he | he, sd, se, q⟩ := h
  · obtain ⟨as, r1⟩ := Dp.reads I d x v hd rx
    obtain ⟨bs, r2⟩ := Dp.reads I _ y u he ry
    exact SeqAt.notIn_list_reads r2 r1 se (SeqAt.canLay_of_shaped sd) (room_in sd hu) ⟨.bl _, H, I, rfl, q⟩
  · obtain ⟨as, r1⟩ := Dp.reads I d x v hd rx
    obtain ⟨bs, r2⟩ := Dp.reads I _ y u he ry
    exact SeqAt.notIn_tuple_reads r2 r1 se (SeqAt.canLay_of_shaped sd) (room_in sd hu) ⟨.bl _, H, I, rfl, q⟩
def elems : D → List D
  | .tup xs => xs
  | .lst xs => xs
  | _ => []
def isSeq : D → Bool
  | .tup _ => true
  | .lst _ => true
  | _ => false
def inOk (x y : D) : Bool := D.dat dep x && D.dat dep y && isSeq y && isSeq y
def memD (x y : D) : Bool := (elems y).any fun z => PyData.eqv (D.toP 19 z) (D.toP dep x)
theorem toP_seq {K : PySem.W.Frag} {H : Hp} {v : V} {y : D} (hs : isSeq y = true) (hd : D.dat dep y = true) (h : Dp K H v (D.toP dep y)) : (Dp K H v (.list ((elems y).map (D.toP 19))) ∨ Dp K H v (.tuple ((elems y).map (D.toP 19)))) ∧ PyData.canLayAll0 ((elems y).map (D.toP 19)) = true := by
  have q := (dat_lay dep y hd).1
  cases y with
  | tup ys => exact ⟨.inr h, by simpa [dep, D.toP, PyData.canLay0, elems] using q⟩
  | lst ys => exact ⟨.inl h, by simpa [dep, D.toP, PyData.canLay0, elems] using q⟩
  | _ => cases hs
theorem s_in {B : Bs} (neg : Bool) : OpS B (rInS B.K neg) (cmpS inOk fun x y => if neg then !memD x y else memD x y) := s_cmp fun x y v w H L Q rx ry hk q => by
  obtain ⟨h1, h2, h3, _⟩ := and4 hk
  obtain ⟨a, b⟩ := toP_seq h3 h2 (Rep.dp _ y w h2 ry)
  refine ⟨_, _, Rep.dp _ x v h1 rx, a, dat_shaped h1 (by decide), b, ?_⟩
  rw [List.any_map]
  exact q
/-! is None -/
def isNon : D → Bool
  | .non => true
  | _ => false
def isNoneS (neg : Bool) (x y : D) (S : Sto) : R D := match y with
  | .non => .ok (.bl (if neg then !isNon x else isNon x)) S
  | _ => .bad
theorem rep_non {B : Bs} {L : List Addr} {H : Hp} {v : V} {d : D} (r : Rep B L H v d) : decide (v = .non) = isNon d := by
  cases d with
  | non => cases r; rfl
  | bl b => cases r; rfl
  | int b => cases r; rfl
  | str b => cases r; rfl
  | tup b => cases r; rfl
  | lst b => cases r; rfl
  | fn b => cases r; rfl
  | clo b => cases r; rfl
  | loc b => cases r; rfl
  | scr b => cases r; rfl
theorem s_is {B : Bs} : OpS B (fun x y H Q => y = .non ∧ Q (.bl (decide (x = .non))) H) (isNoneS false) := by
  intro x y v w H O L S Q o t rx ry q
  unfold isNoneS at q
  split at q
  · cases ry
    exact ⟨rfl, by rw [rep_non rx]; exact q.here o t (.bl _)⟩
  · exact q.elim
theorem s_isnot {B : Bs} : OpS B (fun x y H Q => y = .non ∧ Q (.bl (!decide (x = .non))) H) (isNoneS true) := by
  intro x y v w H O L S Q o t rx ry q
  unfold isNoneS at q
  split at q
  · cases ry
    exact ⟨rfl, by rw [rep_non rx]; exact q.here o t (.bl _)⟩
  · exact q.elim

/-! #### x[i] -/
def idxS (x y : D) (S : Sto) : R D := match y with
  | .int i => match seqD S x with
    | some xs => lift (atI xs i) S
    | none => .bad
  | _ => .bad
def rIxA (K : PySem.W.Frag) : R2 := fun x y H Q => rIxL K x y H Q ∨ rIxT K x y H Q
theorem ix_A {X : Cx} : IxR X (rIxA X.K) := ix_list.or ix_tup
theorem atI_rep {B : Bs} {L : List Addr} {H : Hp} {vs : List V} {xs : List D} {i : Int} {d : D} (r : Reps B L H vs xs) (h : atI xs i = some d) : ∃ v, atI vs i = some v ∧ Rep B L H v d := by
  unfold atI at h ⊢
  rw [r.length]
  cases e : ixN xs.length i with
  | none => rw [e] at h; cases h
  | some j =>
    rw [e] at h
    exact r.get h
theorem s_ix {B : Bs} : OpS B (rIxA B.K) idxS := by
  intro x y v w H O L S Q o t rx ry q
  unfold idxS at q
  split at q
  · split at q
    · rename_i xs e
      obtain ⟨d, hd, q⟩ := sat_lift.mp q
      obtain ⟨a, vs, rfl, hs, rs⟩ := seq_of o rx e
      cases ry
      obtain ⟨z, h1, h2⟩ := atI_rep rs hd
      rcases hs with hs | hs
      · exact .inl ⟨_, _, _, _, rfl, rfl, hs, h1, q.here o t h2⟩
      · exact .inr ⟨_, _, _, _, rfl, rfl, hs, h1, q.here o t h2⟩
    · exact q.elim
  · exact q.elim
end PD


set_option Elab.async false
set_option linter.all false
set_option maxRecDepth 100000
set_option maxHeartbeats 4000000
/-! PD3: names, constants, truth, and or not, displays, arguments, slices. -/
namespace PD
open PySem PySem.Spec PyProof.Rows L2 LamX NdefX

/-! ### names, constants -/
def slotD (ρ : Env) (i : Nat) : Option D := match ρ[i]? with
  | some (some d) => some d
  | _ => none
def slotM (i : Nat) : MD := fun ρ S => lift (slotD ρ i) S
def conM (d : D) : MD := fun _ S => .ok d S
theorem slotD_some {ρ : Env} {i : Nat} {d : D} (h : slotD ρ i = some d) : ρ[i]? = some (some d) := by
  unfold slotD at h
  split at h
  · rename_i e
    rw [e]
    exact congrArg some h
  · cases h
section
variable {X : Cx} {B : Bs} {pos : Pos}
theorem de_slot {i : Nat} {x : Str} (hN : X.N[i]? = some x) (hv : Vis X.env.scope x) (hd : (x == ("__debug__" : Str)) = false) (hcd : (x == ("__classdict__" : Str)) = false) : PE X (.Name x pos) (tD B (slotM i)) := by
  refine peW (pe_var hN hv hd hcd) fun σ H Q ⟨ρ, S, O, L, st, h⟩ => ?_
  obtain ⟨d, hs, h⟩ := sat_lift.mp h
  obtain ⟨v, h1, h2⟩ := st.env i d (slotD_some hs)
  exact ⟨v, h1, h.here st.sto st.tab h2⟩
theorem de_const {e : Expr} {v : V} {d : D} (h : PE X e (tC v)) (r : ∀ L H, Rep B L H v d) : PE X e (tD B (conM d)) :=
  peW h fun σ H Q ⟨ρ, S, O, L, st, q⟩ => Post.here (v := v) q st.sto st.tab (r _ _)
theorem de_int {i j} : PE X (.Constant (.int i) j pos) (tD B (conM (.int i))) := de_const pe_int fun _ _ => .int i
theorem de_bl {i j} : PE X (.Constant (.bool i) j pos) (tD B (conM (.bl i))) := de_const pe_bl fun _ _ => .bl i
theorem de_non {j} : PE X (.Constant .none j pos) (tD B (conM .non)) := de_const pe_non fun _ _ => .non
theorem de_str {i j} : PE X (.Constant (.str i) j pos) (tD B (conM (.str i))) := de_const pe_str fun _ _ => .str i
end

/-! ### truth -/
def truD (S : Sto) : D → Option Bool
  | .non => some false
  | .bl b => some b
  | .int i => some (i != 0)
  | .str x => if x.length ≤ lim then some ((x.length : Int) != 0) else none
  | .tup xs => some (!xs.isEmpty)
  | .lst xs => some (!xs.isEmpty)
  | .loc n => match S[n]? with
    | some (.lst xs) => some (!xs.isEmpty)
    | some (.dct xs) => some (!xs.isEmpty)
    | none => none
  | _ => none
def truM (f : MD) : MB := fun ρ S => (f ρ S).bind fun d S1 => lift (truD S1 d) S1
theorem isEmpty_reps {B : Bs} {L : List Addr} {H : Hp} {vs : List V} {xs : List D} (r : Reps B L H vs xs) : (!vs.isEmpty) = !xs.isEmpty := by
  cases r <;> rfl
theorem tru_rep {B : Bs} {O L : List Addr} {H : Hp} {S : Sto} {v : V} {d : D} {k : Bool} (o : StoOk B O L H S) (r : Rep B L (hid (O ++ L) H) v d) (h : truD S d = some k) : TruV B.K v H k := by
  cases d with
  | non => cases r; exact (Option.some.inj h).symm
  | bl b => cases r; exact (Option.some.inj h).symm
  | int i => cases r; exact (Option.some.inj h).symm
  | str x =>
    cases r
    have h : (if x.length ≤ lim then some ((x.length : Int) != 0) else none) = some k := h
    split at h
    · rename_i hl
      exact ⟨lim_line hl, (Option.some.inj h).symm⟩
    · cases h
  | tup xs =>
    obtain ⟨a, vs, rfl, h1, h2⟩ := tup_of (xs := xs) r rfl
    exact .inr (.inl ⟨vs, h1, by rw [isEmpty_reps h2]; exact (Option.some.inj h).symm⟩)
  | lst xs =>
    obtain ⟨a, vs, rfl, h1, h2⟩ := lst_of (xs := xs) o r rfl
    exact .inl ⟨vs, .inl h1, by rw [isEmpty_reps h2]; exact (Option.some.inj h).symm⟩
  | fn i => cases h
  | clo i => cases h
  | scr i => cases h
  | loc n =>
    cases q : S[n]? with
    | none => simp [truD, q] at h
    | some m =>
      cases m with
      | lst xs =>
        obtain ⟨a, vs, rfl, h1, h2⟩ := lst_of (xs := xs) o r (by show MO.asL S[n]? = _; rw [q]; rfl)
        refine .inl ⟨vs, .inl h1, ?_⟩
        rw [isEmpty_reps h2]
        simp [truD, q] at h
        rw [h]; simp
      | dct kvs =>
        cases r with
        | loc h1 =>
          obtain ⟨a, ha, ws, h2, h3, h4⟩ := o.at_ n _ q
          rw [h1] at ha
          cases ha
          refine .inr (.inr ⟨ws, h2, ?_⟩)
          have e : ws.isEmpty = kvs.isEmpty := by
            have l := congrArg List.length h3
            simp only [List.length_map] at l
            cases ws <;> cases kvs <;> simp_all
          rw [e]
          simp [truD, q] at h
          rw [h]; simp
section
variable {X : Cx} {B : Bs} {pos : Pos} {a b c : Expr} {fa fb fc : MD}
theorem w_tru {σ : L2.St} {H : Hp} {Q : Bool → Hp → Prop} (h : tT B (truM fa) σ H Q) : tD B fa σ H fun x H' => ∃ k, TruV B.K x H' k ∧ Q k H' := by
  obtain ⟨ρ, S, O, L, st, h⟩ := h
  unfold truM at h
  rw [R.sat_bind] at h
  refine ⟨ρ, S, O, L, st, R.sat_mono h fun d S1 h1 v H1 L1 e1 r1 o1 t1 => ?_⟩
  obtain ⟨k, hk, p⟩ := sat_lift.mp h1
  exact ⟨k, tru_rep o1 r1 hk, p H1 L1 e1 o1 t1⟩
/-- a test whose form is plain -/
theorem dt_plain (hK : X.K = B.K) (ha : PE X a (tD B fa)) (he : ∀ whole, isTrue a X.env whole = (do let v ← whole; standAt a.pos; holding [v] (truthy v))) : PT X a (tT B (truM fa)) :=
  ptW (pt_truth ha he) fun _ _ _ h => by rw [hK]; exact w_tru h
/-- what is a bool is its own truth -/
theorem w_truB {t : TE} {σ : L2.St} {H : Hp} {Q : Bool → Hp → Prop} (hb : ∀ (ρ : Env) (S : Sto) (d : D) (S1 : Sto), fa ρ S = .ok d S1 → ∃ k, d = .bl k) (hw : ∀ σ H Q, tD B fa σ H Q → t σ H Q) (h : tT B (truM fa) σ H Q) : t σ H fun x H' => ∃ k, x = .bl k ∧ Q k H' := by
  refine hw _ _ _ ?_
  obtain ⟨ρ, S, O, L, st, h⟩ := h
  unfold truM at h
  rw [R.sat_bind] at h
  refine ⟨ρ, S, O, L, st, ?_⟩
  cases e : fa ρ S with
  | ok d S1 =>
    obtain ⟨k, rfl⟩ := hb _ _ _ _ e
    rw [e] at h
    intro v H1 L1 e1 r1 o1 t1
    cases r1
    exact ⟨k, rfl, h H1 L1 e1 o1 t1⟩
  | exc x S1 => rw [e] at h; exact h.elim
  | bad => rw [e] at h; exact h.elim
def BoolM (f : MD) : Prop := ∀ (ρ : Env) (S : Sto) (d : D) (S1 : Sto), f ρ S = .ok d S1 → ∃ k, d = .bl k
theorem bind_ok_inv {α β : Type} {r : R α} {k : α → Sto → R β} {b : β} {S : Sto} (h : r.bind k = .ok b S) : ∃ a S1, r = .ok a S1 ∧ k a S1 = .ok b S := by
  cases r with
  | ok a S1 => exact ⟨a, S1, rfl, h⟩
  | exc x S1 => cases h
  | bad => cases h
theorem boolM_m2 {sem : D → D → Sto → R D} (h : ∀ x y S d S1, sem x y S = .ok d S1 → ∃ k, d = .bl k) : BoolM (m2 fa fb sem) := fun ρ S d S1 e => by
  obtain ⟨x, S2, _, e⟩ := bind_ok_inv e
  obtain ⟨y, S3, _, e⟩ := bind_ok_inv e
  exact h _ _ _ _ _ e
theorem boolM_cmp {ok g : D → D → Bool} : BoolM (m2 fa fb (cmpS ok g)) := boolM_m2 fun x y S d S1 e => by
  unfold cmpS guardR at e
  split at e
  · cases e
    exact ⟨_, rfl⟩
  · cases e
theorem boolM_is {neg : Bool} : BoolM (m2 fa fb (isNoneS neg)) := boolM_m2 fun x y S d S1 e => by
  unfold isNoneS at e
  split at e
  · cases e
    exact ⟨_, rfl⟩
  · cases e
theorem dt_cmp {op : CmpOp} {r : R2} {sem : D → D → Sto → R D} (ho : OpR X (compareOp op) r) (hs : OpS B r sem) (ha : PE X a (tD B fa)) (hb : PE X b (tD B fb)) (hm : behindInMarks op b = false) (bo : BoolM (m2 fa fb sem)) : PT X (.Compare a [op] [b] pos) (tT B (truM (m2 fa fb sem))) :=
  ptW (pt_cmpR ho ha hb hm) fun _ _ _ h => w_truB bo (fun _ _ _ => w_op hs) h

/-! ### and, or -/
/-- x and .., x or ..: the first that decides -/
def boolM (isAnd : Bool) (fa fb : MD) : MD := fun ρ S => (fa ρ S).bind fun x S1 => (lift (truD S1 x) S1).bind fun k S2 => if k == isAnd then fb ρ S2 else .ok x S2
theorem lift_ok {α : Type} {o : Option α} {S S1 : Sto} {a : α} (h : lift o S = .ok a S1) : o = some a ∧ S1 = S := by
  cases o with
  | none => cases h
  | some b => cases h; exact ⟨rfl, rfl⟩
theorem w_bool {isAnd : Bool} {σ : L2.St} {H : Hp} {Q : VK} (h : tD B (boolM isAnd fa fb) σ H Q) : tD B fa σ H fun x H1 => ∃ k, TruV B.K x H1 k ∧ if (k == isAnd) = true then tD B fb σ H1 Q else Q x H1 := by
  obtain ⟨ρ, S, O, L, st, h⟩ := h
  unfold boolM at h
  rw [R.sat_bind] at h
  refine ⟨ρ, S, O, L, st, R.sat_mono h fun d S1 h1 v H1 L1 e1 r1 o1 t1 => ?_⟩
  rw [R.sat_bind] at h1
  obtain ⟨k, hk, p⟩ := sat_lift.mp h1
  refine ⟨k, tru_rep o1 r1 hk, ?_⟩
  split
  · rename_i q
    simp only [q, if_true] at p
    exact ⟨ρ, S1, O, L1, st.ext e1 o1 t1, R.sat_mono p fun _ _ z => z.ext e1⟩
  · rename_i q
    simp only [q, if_false] at p
    exact p v H1 L1 e1 r1 o1 t1
theorem de_and {rest : List Expr} (hK : X.K = B.K) (ha : PE X a (tD B fa)) (hb : PE X (.BoolOp .And (b :: rest) pos) (tD B fb)) : PE X (.BoolOp .And (a :: b :: rest) pos) (tD B (boolM true fa fb)) :=
  peW (pe_andT ha hb) fun σ H Q h => by
    obtain ⟨ρ, S, O, L, st, h⟩ := w_bool h
    rw [hK]
    refine ⟨ρ, S, O, L, st, R.sat_mono h fun d S1 p v H1 L1 e1 r1 o1 t1 => ?_⟩
    obtain ⟨k, h1, h2⟩ := p v H1 L1 e1 r1 o1 t1
    exact ⟨k, h1, by cases k <;> simpa using h2⟩
theorem de_or {rest : List Expr} (hK : X.K = B.K) (ha : PE X a (tD B fa)) (hb : PE X (.BoolOp .Or (b :: rest) pos) (tD B fb)) : PE X (.BoolOp .Or (a :: b :: rest) pos) (tD B (boolM false fa fb)) :=
  peW (pe_orT ha hb) fun σ H Q h => by
    obtain ⟨ρ, S, O, L, st, h⟩ := w_bool h
    rw [hK]
    refine ⟨ρ, S, O, L, st, R.sat_mono h fun d S1 p v H1 L1 e1 r1 o1 t1 => ?_⟩
    obtain ⟨k, h1, h2⟩ := p v H1 L1 e1 r1 o1 t1
    exact ⟨k, h1, by cases k <;> simpa using h2⟩
theorem de_one {op : BoolOp} {t : TE} (h : PE X a t) : PE X (.BoolOp op [a] pos) t := pe_one h
/-- truth of the whole by the truth of the parts -/
theorem tru_bool {isAnd : Bool} (ρ : Env) (S : Sto) : truM (boolM isAnd fa fb) ρ S = (truM fa ρ S).bind fun k S1 => if k == isAnd then truM fb ρ S1 else .ok k S1 := by
  unfold truM boolM
  cases e : fa ρ S with
  | ok d S1 =>
    simp only [R.bind_ok]
    cases q : truD S1 d with
    | none => rfl
    | some k =>
      simp only [lift_some, R.bind_ok]
      by_cases z : (k == isAnd) = true
      · simp only [z, if_true]
      · simp only [z, if_false, R.bind_ok, q, lift_some, Bool.false_eq_true]
  | exc x S1 => rfl
  | bad => rfl
theorem w_boolT {isAnd : Bool} {σ : L2.St} {H : Hp} {Q : Bool → Hp → Prop} (h : tT B (truM (boolM isAnd fa fb)) σ H Q) : tT B (truM fa) σ H fun k H1 => if (k == isAnd) = true then tT B (truM fb) σ H1 Q else Q k H1 := by
  obtain ⟨ρ, S, O, L, st, h⟩ := h
  rw [tru_bool, R.sat_bind] at h
  refine ⟨ρ, S, O, L, st, R.sat_mono h fun k S1 h1 H1 L1 e1 o1 t1 => ?_⟩
  show if (k == isAnd) = true then tT B (truM fb) σ H1 Q else Q k H1
  split
  · rename_i q
    simp only [q, if_true] at h1
    exact ⟨ρ, S1, O, L1, st.ext e1 o1 t1, R.sat_mono h1 fun _ _ z => z.ext e1⟩
  · rename_i q
    simp only [q, if_false] at h1
    exact h1 H1 L1 e1 o1 t1
theorem dw_and {rest : List Expr} (ha : PT X a (tT B (truM fa))) (hb : PW X (.BoolOp .And (b :: rest) pos) (tT B (truM fb))) : PW X (.BoolOp .And (a :: b :: rest) pos) (tT B (truM (boolM true fa fb))) :=
  pwW (pw_and ha hb) fun σ H Q h => by
    obtain ⟨ρ, S, O, L, st, h⟩ := w_boolT h
    refine ⟨ρ, S, O, L, st, R.sat_mono h fun k S1 p H1 L1 e1 o1 t1 => ?_⟩
    have q := p H1 L1 e1 o1 t1
    cases k <;> simpa using q
theorem dw_or {rest : List Expr} (ha : PT X a (tT B (truM fa))) (hb : PW X (.BoolOp .Or (b :: rest) pos) (tT B (truM fb))) : PW X (.BoolOp .Or (a :: b :: rest) pos) (tT B (truM (boolM false fa fb))) :=
  pwW (pw_or ha hb) fun σ H Q h => by
    obtain ⟨ρ, S, O, L, st, h⟩ := w_boolT h
    refine ⟨ρ, S, O, L, st, R.sat_mono h fun k S1 p H1 L1 e1 o1 t1 => ?_⟩
    have q := p H1 L1 e1 o1 t1
    cases k <;> simpa using q
theorem dw_one (op : BoolOp) {t : TT} (h : PT X a t) : PW X (.BoolOp op [a] pos) t := by
  cases op with
  | And => exact pw_and1 h
  | Or => exact pw_or1 h

/-! ### not -/
def notM (fa : MD) : MD := fun ρ S => (truM fa ρ S).bind fun k S1 => .ok (.bl (!k)) S1
theorem de_not (hK : X.K = B.K) (ha : PE X a (tD B fa)) : PE X (.UnaryOp .Not a pos) (tD B (notM fa)) :=
  peW (pe_notT ha) fun σ H Q ⟨ρ, S, O, L, st, h⟩ => by
    rw [hK]
    unfold notM at h
    rw [R.sat_bind] at h
    refine w_tru (fa := fa) (Q := fun k H1 => Q (.bl (!k)) H1) ⟨ρ, S, O, L, st, R.sat_mono h fun k S1 p H1 L1 e1 o1 t1 => ?_⟩
    exact p (.bl (!k)) H1 L1 e1 (.bl _) o1 t1
theorem dt_not (ha : PT X a (tT B (truM fa))) : PT X (.UnaryOp .Not a pos) (tT B (truM (notM fa))) :=
  ptW (pt_not ha) fun σ H Q ⟨ρ, S, O, L, st, h⟩ => by
    unfold truM notM at h
    rw [R.sat_bind, R.sat_bind] at h
    refine ⟨ρ, S, O, L, st, R.sat_mono h fun k S1 p H1 L1 e1 o1 t1 => ?_⟩
    exact p H1 L1 e1 o1 t1

/-! ### a if c else b -/
def iteM (fc fa fb : MD) : MD := fun ρ S => (truM fc ρ S).bind fun k S1 => if k = true then fa ρ S1 else fb ρ S1
theorem de_ite (hc : PT X c (tT B (truM fc))) (ha : PE X a (tD B fa)) (hb : PE X b (tD B fb)) : PE X (.IfExp c a b pos) (tD B (iteM fc fa fb)) :=
  peW (pe_ifExp hc ha hb) fun σ H Q ⟨ρ, S, O, L, st, h⟩ => by
    unfold iteM at h
    rw [R.sat_bind] at h
    refine ⟨ρ, S, O, L, st, R.sat_mono h fun k S1 p H1 L1 e1 o1 t1 => ?_⟩
    cases k with
    | true => exact ⟨ρ, S1, O, L1, st.ext e1 o1 t1, R.sat_mono p fun _ _ z => z.ext e1⟩
    | false => exact ⟨ρ, S1, O, L1, st.ext e1 o1 t1, R.sat_mono p fun _ _ z => z.ext e1⟩
end

/-! ### arguments, displays -/
def nilL : ML := fun _ S => .ok [] S
def consL (fa : MD) (fr : ML) : ML := fun ρ S => (fa ρ S).bind fun x S1 => (fr ρ S1).bind fun xs S2 => .ok (x :: xs) S2
def starL (fa : MD) (fr : ML) : ML := fun ρ S => (fa ρ S).bind fun x S1 => (lift (seqD S1 x) S1).bind fun ys S2 => (fr ρ S2).bind fun xs S3 => .ok (ys ++ xs) S3
def tupS (xs : List D) (S : Sto) : R D := guardR (decide (xs.length ≤ lim)) (.ok (.tup xs) S)
def lstS (xs : List D) (S : Sto) : R D := guardR (decide (xs.length ≤ lim)) (.ok (.lst xs) S)
section
variable {X : Cx} {B : Bs} {pos : Pos} {e : Expr} {es : List Expr} {fa : MD} {fr : ML}
theorem da_nil : PA X [] (tA B nilL) := paW pa_nil fun σ H Q ⟨ρ, S, O, L, st, h⟩ => h [] H L (Ext.refl L H) .nil st.sto st.tab
theorem da_cons (ha : PE X e (tD B fa)) (hr : PA X es (tA B fr)) (hs : starEach (e :: es) X.env = (false, eval e X.env) :: starEach es X.env) : PA X (e :: es) (tA B (consL fa fr)) :=
  paW (pa_cons ha hr hs) fun σ H Q ⟨ρ, S, O, L, st, h⟩ => by
    unfold consL at h
    rw [R.sat_bind] at h
    refine ⟨ρ, S, O, L, st, R.sat_mono h fun x S1 p v H1 L1 e1 r1 o1 t1 => ?_⟩
    rw [R.sat_bind] at p
    refine ⟨ρ, S1, O, L1, st.ext e1 o1 t1, R.sat_mono p fun xs S2 p vs H2 L2 e2 r2 o2 t2 => ?_⟩
    exact p (v :: vs) H2 L2 (e1.trans e2) (.cons (r1.ext e2) r2) o2 t2
theorem da_star {p : Pos} (hK : X.K = B.K) (ha : PE X e (tD B fa)) (hr : PA X es (tA B fr)) : PA X (.Starred e p :: es) (tA B (starL fa fr)) :=
  paW (StX.pa_star ha hr rfl) fun σ H Q ⟨ρ, S, O, L, st, h⟩ => by
    unfold starL at h
    rw [R.sat_bind] at h
    refine ⟨ρ, S, O, L, st, R.sat_mono h fun x S1 p v H1 L1 e1 r1 o1 t1 => ?_⟩
    rw [R.sat_bind] at p
    obtain ⟨ys, hy, p⟩ := sat_lift.mp p
    obtain ⟨a, ws, rfl, h1, h2⟩ := seq_of o1 r1 hy
    rw [R.sat_bind] at p
    rw [hK]
    refine ⟨a, ws, rfl, h1.symm, ρ, S1, O, L1, st.ext e1 o1 t1, R.sat_mono p fun xs S2 p vs H2 L2 e2 r2 o2 t2 => ?_⟩
    exact p (ws ++ vs) H2 L2 (e1.trans e2) ((h2.ext e2).app r2) o2 t2
theorem de_tup {k : Nat} (h : PA X es (tA B fr)) : PE X (.Tuple es k pos) (tD B (mL fr tupS)) :=
  peW (pe_tup h) fun σ H Q ⟨ρ, S, O, L, st, h⟩ => by
    unfold mL at h
    rw [R.sat_bind] at h
    refine ⟨ρ, S, O, L, st, R.sat_mono h fun xs S1 p vs H1 L1 e1 r1 o1 t1 => ?_⟩
    obtain ⟨hl, p⟩ := sat_guard.mp p
    refine ⟨by rw [r1.length]; exact lim_line (of_decide_eq_true hl), fun q hq => ?_⟩
    exact Post.newT (Post.ext p e1) o1 t1 r1 hq
theorem de_lst (h : PA X es (tA B fr)) : PE X (.List es pos) (tD B (mL fr lstS)) :=
  peW (pe_lst h) fun σ H Q ⟨ρ, S, O, L, st, h⟩ => by
    unfold mL at h
    rw [R.sat_bind] at h
    refine ⟨ρ, S, O, L, st, R.sat_mono h fun xs S1 p vs H1 L1 e1 r1 o1 t1 => ?_⟩
    obtain ⟨hl, p⟩ := sat_guard.mp p
    refine ⟨by rw [r1.length]; exact lim_line (of_decide_eq_true hl), fun q hq => ?_⟩
    exact Post.newL (Post.ext p e1) o1 t1 r1 hq
end

/-! ### a new place -/
/-- a list display whose list will change: it gets a place -/
def newS (xs : List D) (S : Sto) : R D := guardR (decide (xs.length ≤ lim)) (.ok (.loc S.length) (S ++ [.lst xs]))
section
variable {B : Bs} {O L : List Addr} {H : Hp} {S : Sto} {vs : List V} {xs : List D} {p : Addr}
theorem hid_snoc {u : HO} (h : H p = none) (hp : p ∉ O ++ L) : ∀ b o, hid (O ++ L) H b = some o → hid (O ++ (L ++ [p])) (upd H p u) b = some o := fun b o q => by
  obtain ⟨hn, hq⟩ := hid_some q
  have hb : b ≠ p := ne_of_none hq h
  have hn' : b ∉ O ++ (L ++ [p]) := fun z => by
    rw [← List.append_assoc] at z
    rcases List.mem_append.mp z with z | z
    · exact hn z
    · exact hb (by simpa using z)
  exact hid_of hn' (by rw [upd_ne hb]; exact hq)
theorem Ext.place {u : HO} (h : H p = none) (hp : p ∉ O ++ L) : Ext O L H (L ++ [p]) (upd H p u) := ⟨List.prefix_append _ _, ExtN.of (hid_snoc h hp), fun a ha => upd_ne fun z => hp (List.mem_append_left _ (z ▸ ha))⟩
theorem StoOk.place {u : HO} {m : MO} (o : StoOk B O L H S) (h : H p = none) (hm : MRep B O (L ++ [p]) (upd H p u) p m) : StoOk B O (L ++ [p]) (upd H p u) (S ++ [m]) := by
  have hp := o.fresh h
  have hpl : p ∉ L := fun z => hp (List.mem_append_right _ z)
  refine ⟨by rw [List.length_append, List.length_append, o.len] <;> rfl, ?_, fun n m' hn => ?_, fun a ha => ?_⟩
  · rw [List.nodup_append]
    refine ⟨o.nd, by simp, fun a ha b hb => ?_⟩
    have : b = p := by simpa using hb
    rw [this]
    exact fun z => hpl (z ▸ ha)
  · by_cases hl : n < S.length
    · rw [List.getElem?_append_left hl] at hn
      obtain ⟨a, ha, q⟩ := o.at_ n m' hn
      refine ⟨a, by rw [List.getElem?_append_left (by rw [o.len]; exact hl)]; exact ha, q.ext (Ext.place h hp) (upd_ne fun z => hpl (z ▸ List.mem_of_getElem? ha))⟩
    · have e : n = S.length := by
        have := (List.getElem?_eq_some_iff.mp hn).1
        rw [List.length_append] at this
        simp only [List.length_cons, List.length_nil] at this
        omega
      subst e
      rw [List.getElem?_append_right (Nat.le_refl _), Nat.sub_self] at hn
      have hn : m = m' := by simpa using hn
      subst hn
      exact ⟨p, by rw [List.getElem?_append_right (by rw [o.len]; exact Nat.le_refl _), o.len, Nat.sub_self] <;> rfl, hm⟩
  · obtain ⟨h1, h2⟩ := o.obs a ha
    have q : a ≠ p := fun z => hp (List.mem_append_left _ (by rw [← z]; exact ha))
    refine ⟨by rw [upd_ne q]; exact h1, fun z => ?_⟩
    rcases List.mem_append.mp z with z | z
    · exact h2 z
    · exact q (by simpa using z)
theorem Post.place {Q : VK} (q : Post B O L H Q (.loc S.length) (S ++ [.lst xs])) (o : StoOk B O L H S) (t : TabsN B.tabs H) (r : Reps B L (hid (O ++ L) H) vs xs) (h : H p = none) : Q (.ref p) (upd H p (.lst vs)) := by
  have hp := o.fresh h
  refine q _ _ (L ++ [p]) (Ext.place h hp) (.loc ?_) (o.place h ⟨vs, upd_same, r.ext (Ext.place h hp)⟩) (TabsN.new t h)
  rw [List.getElem?_append_right (by rw [o.len]; exact Nat.le_refl _), o.len, Nat.sub_self] <;> rfl
end
theorem de_new {X : Cx} {B : Bs} {pos : Pos} {es : List Expr} {fr : ML} (h : PA X es (tA B fr)) : PE X (.List es pos) (tD B (mL fr newS)) :=
  peW (pe_lst h) fun σ H Q ⟨ρ, S, O, L, st, h⟩ => by
    unfold mL at h
    rw [R.sat_bind] at h
    refine ⟨ρ, S, O, L, st, R.sat_mono h fun xs S1 p vs H1 L1 e1 r1 o1 t1 => ?_⟩
    obtain ⟨hl, p⟩ := sat_guard.mp p
    refine ⟨by rw [r1.length]; exact lim_line (of_decide_eq_true hl), fun q hq => ?_⟩
    exact Post.place (Post.ext p e1) o1 t1 r1 hq

/-! ### slices -/
abbrev MO' := Env → Sto → R (Option Int)
def noneO : MO' := fun _ S => .ok none S
def someO (f : MD) : MO' := fun ρ S => (f ρ S).bind fun d S1 => match d with
  | .int i => .ok (some i) S1
  | _ => .bad
def cutD (xs : List D) (lo hi : Option Int) : List D := (xs.drop (HT.sIx xs.length 0 lo)).take (HT.sIx xs.length xs.length hi - HT.sIx xs.length 0 lo)
def sliceS (x : D) (lo hi : Option Int) (S : Sto) : R D := match x with
  | .tup xs => .ok (.tup (cutD xs lo hi)) S
  | .scr xs => .ok (.lst (cutD xs lo hi)) S
  | x => match lstD S x with
    | some xs => .ok (.lst (cutD xs lo hi)) S
    | none => .bad
def sliceM (fa : MD) (fl fh : MO') : MD := fun ρ S => (fa ρ S).bind fun x S1 => (fl ρ S1).bind fun lo S2 => (fh ρ S2).bind fun hi S3 => sliceS x lo hi S3
def tO (B : Bs) (f : MO') : TO := fun σ H Q => ∃ ρ S O L, StOk B O σ H ρ S L ∧ (f ρ S).sat fun o S' => ∀ H' L', Ext O L H L' H' → StoOk B O L' H' S' → TabsN B.tabs H' → Q o H'
section
variable {X : Cx} {B : Bs} {pos p2 : Pos} {e : Expr} {fa fb : MD} {lo hi : Option Expr} {fl fh : MO'}
theorem poW {t t' : TO} (h : PO X lo t) (w : ∀ σ H Q, t' σ H Q → t σ H Q) : PO X lo t' := ⟨fun pins s σ H Q I q => h.run pins s σ H Q I (w σ H Q q)⟩
theorem do_none : PO X none (tO B noneO) := poW po_none fun σ H Q ⟨ρ, S, O, L, st, h⟩ => h H L (Ext.refl L H) st.sto st.tab
theorem do_some (h : PE X e (tD B fa)) : PO X (some e) (tO B (someO fa)) := poW (po_some h) fun σ H Q ⟨ρ, S, O, L, st, h⟩ => by
  unfold someO at h
  rw [R.sat_bind] at h
  refine ⟨ρ, S, O, L, st, R.sat_mono h fun d S1 p v H1 L1 e1 r1 o1 t1 => ?_⟩
  cases d with
  | int i =>
    cases r1
    exact ⟨i, rfl, p H1 L1 e1 o1 t1⟩
  | _ => exact p.elim
def rSlAll (K : PySem.W.Frag) : V → Option Int → Option Int → Hp → VK → Prop := fun x lo hi H Q => rSlL K x lo hi H Q ∨ rSlA K x lo hi H Q
theorem sl_all : SlR X (rSlAll X.K) := SlR.or sl_list sl_tupA
theorem cut_rep {L : List Addr} {H : Hp} {vs : List V} {xs : List D} (r : Reps B L H vs xs) (lo hi : Option Int) : Reps B L H (cutV vs lo hi) (cutD xs lo hi) := by
  unfold cutV cutD
  rw [r.length]
  exact (r.drop _).take _
theorem cut_all {xs : List D} {lo hi : Option Int} (h : HT.sIx xs.length 0 lo = 0 ∧ HT.sIx xs.length xs.length hi = xs.length) : cutD xs lo hi = xs := by
  unfold cutD
  rw [h.1, h.2, List.drop_zero, Nat.sub_zero, List.take_length]
theorem de_slice (hK : X.K = B.K) (ha : PE X e (tD B fa)) (hl : PO X lo (tO B fl)) (hh : PO X hi (tO B fh)) : PE X (.Subscript e (.Slice lo hi none p2) pos) (tD B (sliceM fa fl fh)) :=
  peW (pe_slice sl_all ha hl hh) fun σ H Q ⟨ρ, S, O, L, st, h⟩ => by
    unfold sliceM at h
    rw [R.sat_bind] at h
    refine ⟨ρ, S, O, L, st, R.sat_mono h fun x S1 p v H1 L1 e1 r1 o1 t1 => ?_⟩
    rw [R.sat_bind] at p
    have st1 := st.ext e1 o1 t1
    refine ⟨ρ, S1, O, L1, st1, R.sat_mono p fun lo S2 p H2 L2 e2 o2 t2 => ?_⟩
    rw [R.sat_bind] at p
    have st2 := st1.ext e2 o2 t2
    refine ⟨ρ, S2, O, L2, st2, R.sat_mono p fun hi S3 p H3 L3 e3 o3 t3 => ?_⟩
    have r3 := (r1.ext e2).ext e3
    have e := (e1.trans e2).trans e3
    rw [hK]
    unfold sliceS at p
    split at p
    · rename_i xs
      obtain ⟨a, vs, rfl, h1, h2⟩ := tup_of r3 rfl
      have hl := h2.length
      refine .inr ⟨a, vs, rfl, h1, fun z => ?_, fun z q hq => ?_⟩
      · rw [hl] at z
        rw [cut_all z] at p
        exact (Post.ext p e).here o3 t3 r3
      · exact Post.newT (Post.ext p e) o3 t3 (cut_rep h2 lo hi) hq
    · cases r3 with
      | scr h1 h2 => exact .inl ⟨_, _, rfl, (hid_sta _ _).seqL h1, fun q hq => Post.newL (Post.ext p e) o3 t3 (cut_rep h2 lo hi) hq⟩
    · split at p
      · rename_i xs hx
        obtain ⟨a, vs, rfl, h1, h2⟩ := lst_of o3 r3 hx
        exact .inl ⟨a, vs, rfl, .inl h1, fun q hq => Post.newL (Post.ext p e) o3 t3 (cut_rep h2 lo hi) hq⟩
      · exact p.elim
end
end PD


set_option Elab.async false
set_option linter.all false
set_option maxRecDepth 100000
set_option maxHeartbeats 4000000
/-! PD4: calls of built-ins. -/
namespace PD
open PySem PySem.Spec PyProof.Rows L2 LamX NdefX

/-! ### argument lists without stars -/
def isStar : Expr → Bool
  | .Starred _ _ => true
  | _ => false
theorem starEach_cons {e : Expr} {es : List Expr} {env : PySem.Env} (h : isStar e = false) : starEach (e :: es) env = (false, eval e env) :: starEach es env := by
  cases e <;> first | rfl | cases h
theorem star_none {pos : Pos} {env : PySem.Env} : ∀ {es : List Expr}, es.all (fun e => !isStar e) = true → (backTo pos (starEach es env)).any (·.1) = false
  | [], _ => rfl
  | e :: es, h => by
    obtain ⟨h1, h2⟩ := and2 (show ((!isStar e) && es.all fun e => !isStar e) = true from h)
    have h1 : isStar e = false := by simpa using h1
    rw [starEach_cons h1]
    show (false || (backTo pos (starEach es env)).any (·.1)) = false
    rw [star_none h2]
    rfl
def noDunder (x : Str) : Bool := !decide (x = ("__name__" : Str)) && !(x == ("__debug__" : Str)) && !(x == ("__classdict__" : Str))
theorem noD1 {x : Str} (h : noDunder x = true) : x ≠ "__name__" ∧ (x == ("__debug__" : Str)) = false ∧ (x == ("__classdict__" : Str)) = false := by
  unfold noDunder at h
  simp only [Bool.and_eq_true, Bool.not_eq_true', decide_eq_false_iff_not] at h
  exact ⟨h.1.1, h.1.2, h.2⟩
section
variable {X : Cx} {B : Bs} {x : Str} {p pos : Pos} {e : Expr} {es : List Expr} {fr : ML} {id T : String} {r : List V → Hp → VK → Prop} {sem : List D → Sto → R D}
theorem w_ca (hs : CaS B r sem) {σ : L2.St} {H : Hp} {Q : VK} (h : tD B (mL fr sem) σ H Q) : tCB r (tA B fr) σ H Q := by
  obtain ⟨ρ, S, O, L, st, h⟩ := h
  unfold mL at h
  rw [R.sat_bind] at h
  exact ⟨ρ, S, O, L, st, R.sat_mono h fun xs S1 p vs H1 L1 e1 r1 o1 t1 => hs xs vs H1 O L1 S1 Q o1 t1 r1 (R.sat_mono p fun d S' q => q.ext e1)⟩
theorem de_callB (hc : CallR X (.builtin id) r) (hs : CaS B r sem) (hg : Gl X x) (hm : X.mg x = none) (hv : bootBuiltins x = some (.builtin id)) (ha : PA X (e :: es) (tA B fr)) (hx : noDunder x = true) (hst : (e :: es).all (fun e => !isStar e) = true) :
    PE X (.Call (.Name x p) (e :: es) [] pos) (tD B (mL fr sem)) := by
  obtain ⟨n1, n2, _⟩ := noD1 hx
  obtain ⟨h1, h2⟩ := and2 (show ((!isStar e) && es.all fun e => !isStar e) = true from hst)
  exact peW (pe_callB hc hg hm hv ha n1 n2 (starEach_cons (by simpa using h1)) (star_none h2)) fun _ _ _ h => w_ca hs h
theorem de_callTy (hc : CallR X (.type T) r) (hs : CaS B r sem) (hg : Gl X x) (hm : X.mg x = none) (hv : bootBuiltins x = some (.type T)) (ha : PA X (e :: es) (tA B fr)) (hx : noDunder x = true) (hst : (e :: es).all (fun e => !isStar e) = true) :
    PE X (.Call (.Name x p) (e :: es) [] pos) (tD B (mL fr sem)) := by
  obtain ⟨n1, n2, _⟩ := noD1 hx
  obtain ⟨h1, h2⟩ := and2 (show ((!isStar e) && es.all fun e => !isStar e) = true from hst)
  exact peW (pe_callTy hc hg hm hv ha n1 n2 (starEach_cons (by simpa using h1)) (star_none h2)) fun _ _ _ h => w_ca hs h
end
theorem reps1 {B : Bs} {L : List Addr} {H : Hp} {vs : List V} {d : D} (r : Reps B L H vs [d]) : ∃ v, vs = [v] ∧ Rep B L H v d := by
  cases r with
  | cons h1 h2 => cases h2; exact ⟨_, rfl, h1⟩
theorem reps2 {B : Bs} {L : List Addr} {H : Hp} {vs : List V} {d e : D} (r : Reps B L H vs [d, e]) : ∃ v w, vs = [v, w] ∧ Rep B L H v d ∧ Rep B L H w e := by
  cases r with
  | cons h1 h2 =>
    cases h2 with
    | cons h3 h4 => cases h4; exact ⟨_, _, rfl, h1, h3⟩

/-! ### len -/
def lenS (xs : List D) (S : Sto) : R D := match xs with
  | [.str x] => guardR (decide (x.length ≤ lim)) (.ok (.int x.length) S)
  | [d] => match seqD S d with
    | some ys => .ok (.int ys.length) S
    | none => .bad
  | _ => .bad
theorem s_len {B : Bs} : CaS B (fun xs H Q => ∃ x n, xs = [x] ∧ LenV B.K x H n ∧ Q (.int n) H) lenS := by
  intro xs vs H O L S Q o t r h
  unfold lenS at h
  split at h
  · obtain ⟨v, rfl, r1⟩ := reps1 r
    cases r1
    obtain ⟨hz, h⟩ := sat_guard.mp h
    exact ⟨_, _, rfl, ⟨lim_line (of_decide_eq_true hz), rfl⟩, h.here o t (.int _)⟩
  · obtain ⟨v, rfl, r1⟩ := reps1 r
    split at h
    · rename_i ys hy
      obtain ⟨a, ws, rfl, h1, h2⟩ := seq_of o r1 hy
      refine ⟨_, ys.length, rfl, ?_, h.here o t (.int _)⟩
      rw [← h2.length]
      rcases h1 with h1 | h1
      · exact .inl ⟨ws, h1, rfl⟩
      · exact .inr ⟨ws, h1, rfl⟩
    · exact h.elim
  · exact h.elim

/-! ### tuple, list -/
def tupleS (xs : List D) (S : Sto) : R D := match xs with
  | [d] => match seqD S d with
    | some ys => .ok (.tup ys) S
    | none => .bad
  | _ => .bad
theorem s_tuple {B : Bs} : CaS B (fun xs H Q => ∃ p ys, xs = [.ref p] ∧ ((SqL B.K H p ys ∧ ∀ l, H l = none → Q (.ref l) (upd H l (.tup ys))) ∨ (SqT B.K H p ys ∧ Q (.ref p) H))) tupleS := by
  intro xs vs H O L S Q o t r h
  unfold tupleS at h
  split at h
  · obtain ⟨v, rfl, r1⟩ := reps1 r
    split at h
    · rename_i d ys hy
      unfold seqD at hy
      split at hy
      · cases hy
        obtain ⟨a, ws, rfl, h1, h2⟩ := tup_of r1 rfl
        exact ⟨a, ws, rfl, .inr ⟨h1, h.here o t r1⟩⟩
      · cases hy
        cases r1 with
        | scr h1 h2 => exact ⟨_, _, rfl, .inl ⟨(hid_sta _ _).seqL h1, fun l hl => Post.newT h o t h2 hl⟩⟩
      · obtain ⟨a, ws, rfl, h1, h2⟩ := lst_of o r1 hy
        exact ⟨a, ws, rfl, .inl ⟨.inl h1, fun l hl => Post.newT h o t h2 hl⟩⟩
    · exact h.elim
  · exact h.elim
def listS (xs : List D) (S : Sto) : R D := match xs with
  | [d] => match seqD S d with
    | some ys => .ok (.lst ys) S
    | none => .bad
  | _ => .bad
/-- list(x) that gets a place -/
def listN (xs : List D) (S : Sto) : R D := match xs with
  | [d] => match seqD S d with
    | some ys => .ok (.loc S.length) (S ++ [.lst ys])
    | none => .bad
  | _ => .bad
abbrev rListOf (K : PySem.W.Frag) : List V → Hp → VK → Prop := fun xs H Q => ∃ p ys, xs = [.ref p] ∧ (SqL K H p ys ∨ SqT K H p ys) ∧ ∀ l, H l = none → Q (.ref l) (upd H l (.lst ys))
theorem s_list {B : Bs} : CaS B (rListOf B.K) listS := by
  intro xs vs H O L S Q o t r h
  unfold listS at h
  split at h
  · obtain ⟨v, rfl, r1⟩ := reps1 r
    split at h
    · rename_i d ys hy
      obtain ⟨a, ws, rfl, h1, h2⟩ := seq_of o r1 hy
      exact ⟨a, ws, rfl, h1, fun l hl => Post.newL h o t h2 hl⟩
    · exact h.elim
  · exact h.elim
theorem s_listN {B : Bs} : CaS B (rListOf B.K) listN := by
  intro xs vs H O L S Q o t r h
  unfold listN at h
  split at h
  · obtain ⟨v, rfl, r1⟩ := reps1 r
    split at h
    · rename_i d ys hy
      obtain ⟨a, ws, rfl, h1, h2⟩ := seq_of o r1 hy
      exact ⟨a, ws, rfl, h1, fun l hl => Post.place h o t h2 hl⟩
    · exact h.elim
  · exact h.elim

/-! ### numbers -/
def absS (xs : List D) (S : Sto) : R D := match xs with
  | [.int i] => .ok (.int (if i < 0 then -i else i)) S
  | _ => .bad
theorem s_abs {B : Bs} : CaS B (fun xs H Q => ∃ i, xs = [.int i] ∧ Q (.int (if i < 0 then -i else i)) H) absS := by
  intro xs vs H O L S Q o t r h
  unfold absS at h
  split at h
  · obtain ⟨v, rfl, r1⟩ := reps1 r
    cases r1
    exact ⟨_, rfl, h.here o t (.int _)⟩
  · exact h.elim
def intS1 (xs : List D) (S : Sto) : R D := match xs with
  | [.int i] => .ok (.int i) S
  | [.bl k] => .ok (.int (if k then 1 else 0)) S
  | _ => .bad
theorem s_int1 {B : Bs} : CaS B (fun xs H Q => (∃ i, xs = [.int i] ∧ Q (.int i) H) ∨ ∃ k, xs = [.bl k] ∧ Q (.int (if k then 1 else 0)) H) intS1 := by
  intro xs vs H O L S Q o t r h
  unfold intS1 at h
  split at h
  · obtain ⟨v, rfl, r1⟩ := reps1 r
    cases r1
    exact .inl ⟨_, rfl, h.here o t (.int _)⟩
  · obtain ⟨v, rfl, r1⟩ := reps1 r
    cases r1
    exact .inr ⟨_, rfl, h.here o t (.int _)⟩
  · exact h.elim
def divmodS (xs : List D) (S : Sto) : R D := match xs with
  | [.int i, .int j] => guardR (decide (0 < j ∧ Nat.ble j.natAbs 1073741823 = true)) (.ok (.tup [.int (i / j), .int (i % j)]) S)
  | _ => .bad
theorem s_divmod {B : Bs} : CaS B (fun xs H Q => ∃ i j, xs = [.int i, .int j] ∧ CDiv i j ∧ ∀ p, H p = none → Q (.ref p) (upd H p (.tup [.int (i / j), .int (i % j)]))) divmodS := by
  intro xs vs H O L S Q o t r h
  unfold divmodS at h
  split at h
  · obtain ⟨v, w, rfl, r1, r2⟩ := reps2 r
    cases r1
    cases r2
    obtain ⟨hz, h⟩ := sat_guard.mp h
    have hz := of_decide_eq_true hz
    have hz2 := Nat.le_of_ble_eq_true hz.2
    exact ⟨_, _, rfl, ⟨hz.1, by omega⟩, fun p hp => Post.newT h o t (.cons (.int _) (.cons (.int _) .nil)) hp⟩
  · exact h.elim
def intsD : List D → Option (List Int)
  | [] => some []
  | .int i :: r => (intsD r).map (i :: ·)
  | _ :: _ => none
theorem intsD_some : ∀ {xs : List D} {ns : List Int}, intsD xs = some ns → xs = ns.map D.int
  | [], ns, h => by cases h; rfl
  | .int i :: r, ns, h => by
    cases e : intsD r with
    | none => simp [intsD, e] at h
    | some ms =>
      simp [intsD, e] at h
      subst h
      rw [intsD_some e]
      rfl
  | .non :: _, _, h => by cases h
  | .bl _ :: _, _, h => by cases h
  | .str _ :: _, _, h => by cases h
  | .tup _ :: _, _, h => by cases h
  | .lst _ :: _, _, h => by cases h
  | .fn _ :: _, _, h => by cases h
  | .clo _ :: _, _, h => by cases h
  | .loc _ :: _, _, h => by cases h
  | .scr _ :: _, _, h => by cases h
@[simp] theorem intsD_map : ∀ ns : List Int, intsD (ns.map D.int) = some ns
  | [] => rfl
  | n :: ns => by
    show (intsD (ns.map D.int)).map (n :: ·) = _
    rw [intsD_map ns]
    rfl
def blsD : List D → Option (List Bool)
  | [] => some []
  | .bl i :: r => (blsD r).map (i :: ·)
  | _ :: _ => none
theorem blsD_some : ∀ {xs : List D} {ns : List Bool}, blsD xs = some ns → xs = ns.map D.bl
  | [], ns, h => by cases h; rfl
  | .bl i :: r, ns, h => by
    cases e : blsD r with
    | none => simp [blsD, e] at h
    | some ms =>
      simp [blsD, e] at h
      subst h
      rw [blsD_some e]
      rfl
  | .non :: _, _, h => by cases h
  | .int _ :: _, _, h => by cases h
  | .str _ :: _, _, h => by cases h
  | .tup _ :: _, _, h => by cases h
  | .lst _ :: _, _, h => by cases h
  | .fn _ :: _, _, h => by cases h
  | .clo _ :: _, _, h => by cases h
  | .loc _ :: _, _, h => by cases h
  | .scr _ :: _, _, h => by cases h
@[simp] theorem blsD_map : ∀ ns : List Bool, blsD (ns.map D.bl) = some ns
  | [] => rfl
  | n :: ns => by
    show (blsD (ns.map D.bl)).map (n :: ·) = _
    rw [blsD_map ns]
    rfl
def sumS (xs : List D) (S : Sto) : R D := match xs with
  | [d] => match (lstD S d).bind intsD with
    | some ns => .ok (.int ns.sum) S
    | none => .bad
  | _ => .bad
theorem s_sum {B : Bs} : CaS B (rSum B.K) sumS := by
  intro xs vs H O L S Q o t r h
  unfold sumS at h
  split at h
  · obtain ⟨v, rfl, r1⟩ := reps1 r
    split at h
    · rename_i d ns hy
      obtain ⟨ys, h1, h2⟩ := Option.bind_eq_some_iff.mp hy
      obtain ⟨a, ws, rfl, h3, h4⟩ := lst_of o r1 h1
      have e := intsD_some h2
      subst e
      have e := h4.ints
      subst e
      exact ⟨a, ns, rfl, .inl h3, h.here o t (.int _)⟩
    · exact h.elim
  · exact h.elim
def allS (any : Bool) (xs : List D) (S : Sto) : R D := match xs with
  | [d] => match (lstD S d).bind blsD with
    | some ns => .ok (.bl (if any then ns.any id else ns.all id)) S
    | none => .bad
  | _ => .bad
theorem s_all {B : Bs} : CaS B (rAll B.K) (allS false) := by
  intro xs vs H O L S Q o t r h
  unfold allS at h
  split at h
  · obtain ⟨v, rfl, r1⟩ := reps1 r
    split at h
    · rename_i d ns hy
      obtain ⟨ys, h1, h2⟩ := Option.bind_eq_some_iff.mp hy
      obtain ⟨a, ws, rfl, h3, h4⟩ := lst_of o r1 h1
      have e := blsD_some h2
      subst e
      have e := h4.bls
      subst e
      exact ⟨a, ns, rfl, .inl h3, h.here o t (.bl _)⟩
    · exact h.elim
  · exact h.elim
theorem s_any {B : Bs} : CaS B (rAny B.K) (allS true) := by
  intro xs vs H O L S Q o t r h
  unfold allS at h
  split at h
  · obtain ⟨v, rfl, r1⟩ := reps1 r
    split at h
    · rename_i d ns hy
      obtain ⟨ys, h1, h2⟩ := Option.bind_eq_some_iff.mp hy
      obtain ⟨a, ws, rfl, h3, h4⟩ := lst_of o r1 h1
      have e := blsD_some h2
      subst e
      have e := h4.bls
      subst e
      exact ⟨a, ns, rfl, .inl h3, h.here o t (.bl _)⟩
    · exact h.elim
  · exact h.elim

/-! ### min, max -/
theorem toP_inj : ∀ (k : Nat) (a b : D), D.dat k a = true → D.dat k b = true → D.toP k a = D.toP k b → a = b := by
  intro k
  induction k with
  | zero =>
    intro a b ha hb e
    cases a <;> cases b <;> simp_all [D.dat, D.toP]
  | succ k ih =>
    have all : ∀ (xs ys : List D), (∀ d ∈ xs, D.dat k d = true) → (∀ d ∈ ys, D.dat k d = true) → xs.map (D.toP k) = ys.map (D.toP k) → xs = ys := by
      intro xs
      induction xs with
      | nil =>
        intro ys _ _ e
        cases ys with
        | nil => rfl
        | cons y ys => simp at e
      | cons x xs ihx =>
        intro ys h1 h2 e
        cases ys with
        | nil => simp at e
        | cons y ys =>
          simp only [List.map_cons, List.cons.injEq] at e
          rw [ih x y (h1 x List.mem_cons_self) (h2 y List.mem_cons_self) e.1, ihx ys (fun d hd => h1 d (List.mem_cons_of_mem _ hd)) (fun d hd => h2 d (List.mem_cons_of_mem _ hd)) e.2]
    intro a b ha hb e
    cases a <;> cases b <;> simp only [D.dat, D.toP, PyData.tuple.injEq, PyData.list.injEq, PyData.int.injEq, PyData.bool.injEq, PyData.str.injEq, List.all_eq_true, reduceCtorEq, Bool.false_eq_true] at ha hb e ⊢
    all_goals first
      | exact congrArg _ e
      | exact congrArg _ (all _ _ ha hb e)
      | skip
/-- data that < tells among each other -/
def orderly (xs : List D) : Bool := xs.all (fun d => D.dat dep d && !isNonP (D.toP dep d)) && xs.all fun d => xs.all fun e => PySem.W.alike (D.toP dep d) (D.toP dep e)
theorem orderly_of {xs : List D} (h : orderly xs = true) : (∀ d ∈ xs, D.dat dep d = true) ∧ PySem.W.AlikeAll (xs.map (D.toP dep)) := by
  obtain ⟨h1, h2⟩ := and2 h
  simp only [List.all_eq_true, Bool.and_eq_true] at h1 h2
  refine ⟨fun d hd => (h1 d hd).1, ?_, ?_⟩
  · intro x hx y hy
    obtain ⟨a, ha, rfl⟩ := List.mem_map.mp hx
    obtain ⟨b, hb, rfl⟩ := List.mem_map.mp hy
    exact h2 a ha b hb
  · intro x hx
    obtain ⟨a, ha, rfl⟩ := List.mem_map.mp hx
    exact nn_of (h1 a ha).2
def leastD (x : D) (xs : List D) : D := xs.foldl (fun a y => if ltD y a then y else a) x
def mostD (x : D) (xs : List D) : D := xs.foldl (fun a y => if ltD a y then y else a) x
theorem least_mem (x : D) (xs : List D) : leastD x xs ∈ x :: xs ∧ D.toP dep (leastD x xs) = PySem.W.minD (D.toP dep x) (xs.map (D.toP dep)) := by
  unfold leastD PySem.W.minD
  induction xs generalizing x with
  | nil => exact ⟨List.mem_cons_self, rfl⟩
  | cons y ys ih =>
    simp only [List.foldl_cons, List.map_cons]
    obtain ⟨h1, h2⟩ := ih (if ltD y x then y else x)
    constructor
    · rcases List.mem_cons.mp h1 with h | h
      · rw [h]
        split
        · exact List.mem_cons_of_mem _ List.mem_cons_self
        · exact List.mem_cons_self
      · exact List.mem_cons_of_mem _ (List.mem_cons_of_mem _ h)
    · rw [h2]
      congr 1
      unfold ltD
      split <;> rfl
theorem most_mem (x : D) (xs : List D) : mostD x xs ∈ x :: xs ∧ D.toP dep (mostD x xs) = PySem.W.maxD (D.toP dep x) (xs.map (D.toP dep)) := by
  unfold mostD PySem.W.maxD
  induction xs generalizing x with
  | nil => exact ⟨List.mem_cons_self, rfl⟩
  | cons y ys ih =>
    simp only [List.foldl_cons, List.map_cons]
    obtain ⟨h1, h2⟩ := ih (if ltD x y then y else x)
    constructor
    · rcases List.mem_cons.mp h1 with h | h
      · rw [h]
        split
        · exact List.mem_cons_of_mem _ List.mem_cons_self
        · exact List.mem_cons_self
      · exact List.mem_cons_of_mem _ (List.mem_cons_of_mem _ h)
    · rw [h2]
      congr 1
      unfold ltD
      split <;> rfl
def minS (big : Bool) (xs : List D) (S : Sto) : R D := match xs with
  | [.int i, .int j] => .ok (.int (if big then (if j > i then j else i) else if j < i then j else i)) S
  | [d] => match seqD S d with
    | some (y :: ys) => guardR (orderly (y :: ys)) (.ok (if big then mostD y ys else leastD y ys) S)
    | _ => .bad
  | _ => .bad
theorem each_vals {B : Bs} {L : List Addr} {H : Hp} : ∀ {vs : List V} {us : List Value} {ds : List D}, Vals vs us → Reps B L H vs ds → PySem.W.EachIs (fun u d => ∃ v, RelV v u ∧ Rep B L H v d) us ds
  | _, _, _, .nil, .nil => .nil
  | _, _, _, .cons r t, .cons h k => .cons ⟨_, r, h⟩ (each_vals t k)
theorem depthAll_le {k : Nat} {ds : List D} (h : ∀ d ∈ ds, D.dat k d = true) : PyData.depthAll (ds.map (D.toP k)) ≤ k := (layAll ds h (dat_lay k)).2
/-- min, max of a list or a tuple: the item that the fold picks, as it stands -/
def rPick (K : PySem.W.Frag) (g : PyData → List PyData → PyData) : List V → Hp → VK → Prop := fun xs H Q => ∃ a vs p ps, xs = [V.ref a] ∧ (SqL K H a vs ∨ SqT K H a vs) ∧ DpAll K H vs (p :: ps) ∧ PySem.W.AlikeAll (p :: ps) ∧ PyData.canLayAll0 (p :: ps) = true ∧ PyData.depthAll (p :: ps) ≤ 64 ∧
  ∀ (i : Nat) v, vs[i]? = some v → (p :: ps)[i]? = some (g p ps) → Q v H
theorem lay_all {x : PyData} {xs : List PyData} (hl : PyData.canLayAll0 (x :: xs) = true) {g : PyData} (hm : g ∈ x :: xs) : PyData.canLay0 g = true := by
  have h : ∀ (l : List PyData), PyData.canLayAll0 l = true → ∀ z ∈ l, PyData.canLay0 z = true := by
    intro l
    induction l with
    | nil => intro _ z hz; cases hz
    | cons a l ih =>
      intro h z hz
      obtain ⟨h1, h2⟩ := and2 (show (PyData.canLay0 a && PyData.canLayAll0 l) = true from by simpa [PyData.canLayAll0] using h)
      rcases List.mem_cons.mp hz with rfl | hz
      · exact h1
      · exact ih h2 z hz
  exact h _ hl g hm
section
variable {X : Cx}
theorem pick_fin {pins : List (Addr × Obj)} {s : Shared} {σ : L2.St} {H : Hp} {Q : VK} {vs : List V} {its : List Value} {ps : List PyData} {as bs : List Addr} {g : PyData} {i : Nat} {v : Value} {h' : Heap} {tk : Nat} (I : Inv X pins σ H s) (rv : Vals vs its) (da : DpAll X.K H vs ps) (hr : ReadsAll s.heap its ps as) (hlay : PyData.canLayAll0 ps = true) (hg : PyData.canLay0 g = true)
    (hv : its.toArray[i]? = some v) (r : Reads h' v g bs) (hk : ∀ b o, s.heap.get? b = some o → h'.get? b = some o) (q : ∀ (i : Nat) v, vs[i]? = some v → ps[i]? = some g → Q v H) : EP X pins σ Q v { s with heap := h', toks := tk } := by
  have hv2 : its[i]? = some v := by simpa using hv
  have hlen : its.length = ps.length := SeqAt.ReadsAll.length ps its as hr
  have hi : i < its.length := (List.getElem?_eq_some_iff.mp hv2).1
  have hmap := SeqAt.readsAll_map ps its as hlay hr
  have hp : ps[i]? = some (SeqAt.readOf s.heap v) := by
    rw [← hmap, List.getElem?_map, hv2]
    rfl
  obtain ⟨d, as', hr', hc', _⟩ := SeqAt.readsAll_mem ps its as hlay hr v (List.mem_of_getElem? hv2)
  have e1 : SeqAt.readOf s.heap v = d := SeqAt.readOf_eq hc' hr'
  have e2 : SeqAt.readOf h' v = g := SeqAt.readOf_eq hg r
  have e3 : SeqAt.readOf h' v = d := SeqAt.readOf_eq hc' (PySem.W.reads_keeps hk hr')
  have eg : d = g := e3.symm.trans e2
  rw [e1, eg] at hp
  have hvl := rv.length
  obtain ⟨w, hw⟩ : ∃ w, vs[i]? = some w := ⟨_, List.getElem?_eq_getElem (by omega)⟩
  obtain ⟨u, hu, ru⟩ := rv.get hw
  rw [hv2] at hu
  cases hu
  exact ⟨w, H, I.kept hk, ru, q i w hw hp⟩
theorem minD_mem (x : PyData) (xs : List PyData) : PySem.W.minD x xs ∈ x :: xs := by
  unfold PySem.W.minD
  induction xs generalizing x with
  | nil => exact List.mem_cons_self
  | cons y ys ih =>
    simp only [List.foldl_cons]
    rcases List.mem_cons.mp (ih (if PySem.W.dataLt y x then y else x)) with h | h
    · rw [h]
      split
      · exact List.mem_cons_of_mem _ List.mem_cons_self
      · exact List.mem_cons_self
    · exact List.mem_cons_of_mem _ (List.mem_cons_of_mem _ h)
theorem maxD_mem (x : PyData) (xs : List PyData) : PySem.W.maxD x xs ∈ x :: xs := by
  unfold PySem.W.maxD
  induction xs generalizing x with
  | nil => exact List.mem_cons_self
  | cons y ys ih =>
    simp only [List.foldl_cons]
    rcases List.mem_cons.mp (ih (if PySem.W.dataLt x y then y else x)) with h | h
    · rw [h]
      split
      · exact List.mem_cons_of_mem _ List.mem_cons_self
      · exact List.mem_cons_self
    · exact List.mem_cons_of_mem _ (List.mem_cons_of_mem _ h)
theorem cr_pickMin (hc : X.calm = true) (hu : X.A.units + 66 < cLine) : CallR X (.builtin "min") (rPick X.K PySem.W.minD) := by
  intro pins s σ H xs us Q I r h
  obtain ⟨a, vs, p, ps, rfl, hs, da, al, hlay, hd, q⟩ := h
  rw [Vals.ref1 r]
  rcases hs with hs | hs
  · obtain ⟨its, rv, pl, hz⟩ := I.list hs
    obtain ⟨as, hr⟩ := Dp.readsAll I _ _ its da rv
    refine PySem.W.min_list_data (I.ok.hd hc) pl.isList (vs := its.toArray) (by simpa using hr) al (by omega) fun i v h' tk bs hv r hk => ?_
    exact pick_fin I rv da hr hlay (lay_all hlay (minD_mem p ps)) hv r hk q
  · obtain ⟨its, rv, pl, hz⟩ := I.tuple hs
    obtain ⟨as, hr⟩ := Dp.readsAll I _ _ its da rv
    refine PySem.W.min_tuple_data (I.ok.hd hc) (show s.heap.IsTuple a its.toArray from pl) (vs := its.toArray) (by simpa using hr) al (by omega) fun i v h' tk bs hv r hk => ?_
    exact pick_fin I rv da hr hlay (lay_all hlay (minD_mem p ps)) hv r hk q
theorem cr_pickMax (hc : X.calm = true) (hu : X.A.units + 66 < cLine) : CallR X (.builtin "max") (rPick X.K PySem.W.maxD) := by
  intro pins s σ H xs us Q I r h
  obtain ⟨a, vs, p, ps, rfl, hs, da, al, hlay, hd, q⟩ := h
  rw [Vals.ref1 r]
  rcases hs with hs | hs
  · obtain ⟨its, rv, pl, hz⟩ := I.list hs
    obtain ⟨as, hr⟩ := Dp.readsAll I _ _ its da rv
    refine PySem.W.max_list_data (I.ok.hd hc) pl.isList (vs := its.toArray) (by simpa using hr) al (by omega) fun i v h' tk bs hv r hk => ?_
    exact pick_fin I rv da hr hlay (lay_all hlay (maxD_mem p ps)) hv r hk q
  · obtain ⟨its, rv, pl, hz⟩ := I.tuple hs
    obtain ⟨as, hr⟩ := Dp.readsAll I _ _ its da rv
    refine PySem.W.max_tuple_data (I.ok.hd hc) (show s.heap.IsTuple a its.toArray from pl) (vs := its.toArray) (by simpa using hr) al (by omega) fun i v h' tk bs hv r hk => ?_
    exact pick_fin I rv da hr hlay (lay_all hlay (maxD_mem p ps)) hv r hk q
def rMinA (K : PySem.W.Frag) (big : Bool) : List V → Hp → VK → Prop := fun xs H Q => (∃ i j, xs = [.int i, .int j] ∧ Q (.int (if big then (if j > i then j else i) else if j < i then j else i)) H) ∨ rPick K (if big then PySem.W.maxD else PySem.W.minD) xs H Q
theorem CallR_or {f : Value} {r r' : List V → Hp → VK → Prop} (h : CallR X f r) (h' : CallR X f r') : CallR X f (fun xs H Q => r xs H Q ∨ r' xs H Q) := by
  intro pins s σ H xs us Q I rv q
  rcases q with q | q
  · exact h pins s σ H xs us Q I rv q
  · exact h' pins s σ H xs us Q I rv q
theorem cr_minA (hc : X.calm = true) (hu : X.A.units + 66 < cLine) : CallR X (.builtin "min") (rMinA X.K false) := CallR_or (call_min2 hc) (cr_pickMin hc hu)
theorem cr_maxA (hc : X.calm = true) (hu : X.A.units + 66 < cLine) : CallR X (.builtin "max") (rMinA X.K true) := CallR_or (call_max2 hc) (cr_pickMax hc hu)
end
theorem pick_rep {B : Bs} {L : List Addr} {H : Hp} {vs : List V} {xs : List D} {d : D} {i : Nat} {v : V} (r : Reps B L H vs xs) (hx : ∀ d ∈ xs, D.dat dep d = true) (hd : D.dat dep d = true) (hv : vs[i]? = some v) (e : (xs.map (D.toP dep))[i]? = some (D.toP dep d)) : Rep B L H v d := by
  obtain ⟨z, hz, rz⟩ := r.getV hv
  rw [List.getElem?_map, hz] at e
  have e : D.toP dep z = D.toP dep d := Option.some.inj e
  rw [← toP_inj dep z d (hx z (List.mem_of_getElem? hz)) hd e]
  exact rz
theorem s_min {B : Bs} (big : Bool) : CaS B (rMinA B.K big) (minS big) := by
  intro xs vs H O L S Q o t r h
  unfold minS at h
  split at h
  · obtain ⟨v, w, rfl, r1, r2⟩ := reps2 r
    cases r1
    cases r2
    exact .inl ⟨_, _, rfl, h.here o t (.int _)⟩
  · obtain ⟨v, rfl, r1⟩ := reps1 r
    split at h
    · rename_i d y ys hy
      obtain ⟨hz, h⟩ := sat_guard.mp h
      obtain ⟨h1, h2⟩ := orderly_of hz
      obtain ⟨a, ws, rfl, h3, h4⟩ := seq_of o r1 hy
      have da := Reps.dp dep (y :: ys) ws h1 h4.full
      obtain ⟨l1, l2⟩ := layAll (k := dep) (y :: ys) h1 (dat_lay dep)
      refine .inr ⟨a, ws, _, _, rfl, h3, da, h2, l1, Nat.le_trans l2 (by decide), fun i v hv hi => ?_⟩
      cases big with
      | false =>
        obtain ⟨m1, m2⟩ := least_mem y ys
        simp only [Bool.false_eq_true, if_false] at hi h
        refine Post.here h o t (pick_rep (i := i) h4 h1 (h1 _ m1) hv ?_)
        rw [m2]
        exact hi
      | true =>
        obtain ⟨m1, m2⟩ := most_mem y ys
        simp only [if_true] at hi h
        refine Post.here h o t (pick_rep (i := i) h4 h1 (h1 _ m1) hv ?_)
        rw [m2]
        exact hi
    · exact h.elim
  · exact h.elim

/-! ### sorted -/
def leP (a b : D) : Bool := PySem.W.dataLe false (D.toP dep) a b
/-- what may be sorted -/
def sortable (xs : List D) : Bool := orderly xs && (xs.all (fun d => match d with
  | .tup (_ :: _) => true
  | _ => false) || xs.all fun d => match d with
  | .tup _ => false
  | _ => true)
def sortedS (xs : List D) (S : Sto) : R D := match xs with
  | [d] => match lstD S d with
    | some ys => guardR (sortable ys) (.ok (.lst (ys.mergeSort leP)) S)
    | none => .bad
  | _ => .bad
theorem sortable_of {xs : List D} (h : sortable xs = true) : (∀ d ∈ xs, D.dat dep d = true) ∧ PySem.W.AllAlike (xs.map (D.toP dep)) ∧ PySem.W.Sortable (xs.map (D.toP dep)) := by
  obtain ⟨h1, h2⟩ := and2 h
  obtain ⟨a, b⟩ := orderly_of h1
  refine ⟨a, fun d hd d' hd' => b.1 d hd d' hd', ?_⟩
  rw [Bool.or_eq_true, List.all_eq_true, List.all_eq_true] at h2
  rcases h2 with h2 | h2
  · refine .inl fun p hp => ?_
    obtain ⟨d, hd, rfl⟩ := List.mem_map.mp hp
    have q := h2 d hd
    split at q
    · exact ⟨_, _, rfl⟩
    · cases q
  · refine .inr fun p hp => ⟨b.2 p hp, fun ys e => ?_⟩
    obtain ⟨d, hd, rfl⟩ := List.mem_map.mp hp
    have q := h2 d hd
    have qd := a d hd
    cases d <;> simp [dep, D.toP, D.dat] at e q qd
/-- R of the items goes along with the sorting -/
def rSortD (B : Bs) : List V → Hp → VK → Prop := fun xs H Q => ∃ (a : Addr) (vs : List V) (M L : List Addr) (ds : List D), xs = [V.ref a] ∧ SqL B.K H a vs ∧ Reps B L (hid M H) vs ds ∧ (∀ d ∈ ds, D.dat dep d = true) ∧ PySem.W.AllAlike (ds.map (D.toP dep)) ∧ PySem.W.Sortable (ds.map (D.toP dep)) ∧
  ∀ p ws, H p = none → Reps B L (hid M H) ws (ds.mergeSort leP) → Q (.ref p) (upd H p (.lst ws))
theorem each_reps {B : Bs} {L : List Addr} {H : Hp} : ∀ {us : List Value} {ds : List D}, PySem.W.EachIs (fun u d => ∃ v, RelV v u ∧ Rep B L H v d) us ds → ∃ vs, Vals vs us ∧ Reps B L H vs ds
  | _, _, .nil => ⟨[], .nil, .nil⟩
  | _, _, .cons ⟨v, r, h⟩ t => by
    obtain ⟨vs, h1, h2⟩ := each_reps t
    exact ⟨v :: vs, .cons r h1, .cons h h2⟩
theorem each_readsE {h : Heap} : ∀ {us : List Value} {ds : List D} {as : List Addr}, ReadsAll h us (ds.map (D.toP dep)) as → PySem.W.EachIs (fun v b => ∃ as, Reads h v (D.toP dep b) as) us ds
  | _, [], _, h => by
    cases h
    exact .nil
  | _, d :: ds, _, h => by
    cases h with
    | cons h1 h2 => exact .cons ⟨_, h1⟩ (each_readsE h2)
theorem cr_sortedD {X : Cx} {B : Bs} (hK : X.K = B.K) (hu : X.A.units + 66 < cLine) : CallR X (.builtin "sorted") (rSortD B) := by
  intro pins s σ H xs us Q I r h
  obtain ⟨a, vs, M, L, ds, rfl, hs, hr, hd, hal, hk, q⟩ := h
  rw [Vals.ref1 r]
  rw [← hK] at hs
  obtain ⟨its, rv, pl, hz⟩ := I.list hs
  have dp := Reps.dp dep ds vs hd (Reps.mono (List.prefix_refl _) (hid_sta M H) ds vs hr)
  rw [← hK] at dp
  obtain ⟨as, rd⟩ := Dp.readsAll I _ _ its dp rv
  have hl := hr.length
  refine PySem.W.sorted_data (enc := D.toP dep) (R := fun u d => ∃ v, RelV v u ∧ Rep B L (hid M H) v d) pl.isList (each_vals rv hr) (each_readsE rd) hal hk (by omega) (fun b hb => ?_) fun out ho he => ?_
  · have := (dat_lay dep b (hd b hb)).2
    unfold dep at *
    omega
  · obtain ⟨ws, rw', rr⟩ := each_reps he
    obtain ⟨ep, he'⟩ := PyProof.Rows.sortedAll_at s.heap its out.toArray
    have hlen : ws.length ≤ sizeLine := by
      rw [rw'.length, ho]
      omega
    exact ⟨.ref _, upd H (s.heap.objs.size + 1) (.lst ws), I.laid (t' := s.toks) (fun _ _ => PyProof.Rows.sortedAll_old) (Nat.le_succ _) ⟨hlen, out, ep, rw', he'⟩, rfl, q _ ws (I.hok.fresh (Nat.le_succ _)) rr⟩
theorem s_sorted {B : Bs} : CaS B (rSortD B) sortedS := by
  intro xs vs H O L S Q o t r h
  unfold sortedS at h
  split at h
  · obtain ⟨v, rfl, r1⟩ := reps1 r
    split at h
    · rename_i d ys hy
      obtain ⟨hz, h⟩ := sat_guard.mp h
      obtain ⟨h1, h2, h3⟩ := sortable_of hz
      obtain ⟨a, ws, rfl, h4, h5⟩ := lst_of o r1 hy
      exact ⟨a, ws, _, L, ys, rfl, .inl h4, h5, h1, h2, h3, fun p zs hp hzs => Post.newL h o t hzs hp⟩
    · exact h.elim
  · exact h.elim
end PD


set_option Elab.async false
set_option linter.all false
set_option maxRecDepth 100000
set_option maxHeartbeats 4000000
/-! PD5: targets, what is walked. -/
namespace PD
open PySem PySem.Spec PyProof.Rows L2 LamX NdefX

/-! ### targets -/
abbrev ME := D → Env → Sto → R Env
abbrev MEs := List D → Env → Sto → R Env
def PostE (B : Bs) (O L : List Addr) (H : Hp) (Q : L2.St → Hp → Prop) : Env → Sto → Prop := fun ρ' S' => ∀ σ' H' L', Ext O L H L' H' → StOk B O σ' H' ρ' S' L' → Q σ' H'
theorem PostE.ext {B : Bs} {O L L1 : List Addr} {H H1 : Hp} {Q : L2.St → Hp → Prop} {ρ : Env} {S : Sto} (p : PostE B O L H Q ρ S) (e : Ext O L H L1 H1) : PostE B O L1 H1 Q ρ S := fun σ' H' L' e' => p σ' H' L' (e.trans e')
def tG (B : Bs) (f : ME) : TG := fun v σ H Q => ∃ ρ S O L d, StOk B O σ H ρ S L ∧ Rep B L (hid (O ++ L) H) v d ∧ (f d ρ S).sat (PostE B O L H Q)
def tGs (B : Bs) (f : MEs) : TGs := fun vs σ H Q => ∃ ρ S O L ds, StOk B O σ H ρ S L ∧ Reps B L (hid (O ++ L) H) vs ds ∧ (f ds ρ S).sat (PostE B O L H Q)
def setE (i : Nat) : ME := fun d ρ S => guardR (decide (i < ρ.length)) (.ok (ρ.set i (some d)) S)
def nilE : MEs := fun ds ρ S => match ds with
  | [] => .ok ρ S
  | _ => .bad
def consE (f : ME) (g : MEs) : MEs := fun ds ρ S => match ds with
  | d :: r => (f d ρ S).bind fun ρ1 S1 => g r ρ1 S1
  | [] => .bad
def tupE (n : Nat) (f : MEs) : ME := fun d ρ S => match tupD d with
  | some xs => guardR (decide (xs.length = n)) (f xs ρ S)
  | none => .bad
theorem StOk.set {B : Bs} {O L : List Addr} {σ : L2.St} {H : Hp} {ρ : Env} {S : Sto} {i : Nat} {v : V} {d : D} (s : StOk B O σ H ρ S L) (r : Rep B L (hid (O ++ L) H) v d) (hi : i < ρ.length) : StOk B O (σ.set i (some v)) H (ρ.set i (some d)) S L := by
  refine ⟨fun j e h => ?_, by rw [List.length_set, List.length_set]; exact s.len, s.sto, s.tab⟩
  by_cases hj : i = j
  · subst hj
    rw [List.getElem?_set_self hi] at h
    cases h
    exact ⟨v, by rw [List.getElem?_set_self (by rw [← s.len]; exact hi)], r⟩
  · rw [List.getElem?_set_ne hj] at h
    obtain ⟨w, h1, h2⟩ := s.env j e h
    exact ⟨w, by rw [List.getElem?_set_ne hj]; exact h1, h2⟩
theorem noStarT {es : List Expr} {env : PySem.Env} (h : es.all (fun e => !isStar e) = true) : (assignEach es env).length = es.length ∧ (assignEach es env).findIdx? (·.1) = none := by
  induction es with
  | nil => exact ⟨rfl, rfl⟩
  | cons e es ih =>
    obtain ⟨h1, h2⟩ := and2 (show ((!isStar e) && es.all fun e => !isStar e) = true from h)
    obtain ⟨a, b⟩ := ih h2
    have q : assignEach (e :: es) env = (false, assign e env) :: assignEach es env := by
      cases e <;> first | rfl | cases h1
    rw [q]
    refine ⟨by rw [List.length_cons, List.length_cons, a], ?_⟩
    rw [List.findIdx?_cons, b]
    rfl
theorem assign_cons {e : Expr} {es : List Expr} {env : PySem.Env} (h : isStar e = false) : (assignEach (e :: es) env).map (·.2) = assign e env :: (assignEach es env).map (·.2) := by
  cases e <;> first | rfl | cases h
section
variable {X : Cx} {B : Bs} {pos : Pos} {e : Expr} {es : List Expr}
theorem pgW {t t' : TG} (h : PG X e t) (w : ∀ v σ H Q, t' v σ H Q → t v σ H Q) : PG X e t' := ⟨fun pins s σ H v u Q I r q => h.run pins s σ H v u Q I r (w v σ H Q q)⟩
theorem pgsW {t t' : TGs} (h : PGs X es t) (w : ∀ v σ H Q, t' v σ H Q → t v σ H Q) : PGs X es t' := ⟨fun pins s σ H v u Q I r q => h.run pins s σ H v u Q I r (w v σ H Q q)⟩
theorem dg_name {i : Nat} {x : Str} (hN : X.N.Nodup) (hi : X.N[i]? = some x) (hx : Loc X.env.scope x) (hf : X.fn x = true ∨ X.env.scope.names.lookup x = some .local) : PG X (.Name x pos) (tG B (setE i)) :=
  pgW (pg_name hN hi hx hf) fun v σ H Q ⟨ρ, S, O, L, d, st, r, h⟩ => by
    obtain ⟨hl, h⟩ := sat_guard.mp h
    exact h _ H L (Ext.refl L H) (st.set r (of_decide_eq_true hl))
theorem dgs_nil : PGs X [] (tGs B nilE) := pgsW pgs_nil fun vs σ H Q ⟨ρ, S, O, L, ds, st, r, h⟩ => by
  cases r with
  | nil => exact ⟨rfl, h σ H L (Ext.refl L H) st⟩
  | cons a b => exact h.elim
theorem dgs_cons {f : ME} {g : MEs} (h1 : PG X e (tG B f)) (h2 : PGs X es (tGs B g)) (hs : isStar e = false) : PGs X (e :: es) (tGs B (consE f g)) :=
  pgsW (pgs_cons h1 h2 (assign_cons hs)) fun vs σ H Q ⟨ρ, S, O, L, ds, st, r, h⟩ => by
    cases r with
    | nil => exact h.elim
    | cons a b =>
      have h : ((f _ ρ S).bind fun ρ1 S1 => g _ ρ1 S1).sat (PostE B O L H Q) := h
      rw [R.sat_bind] at h
      refine ⟨_, _, rfl, ρ, S, O, L, _, st, a, R.sat_mono h fun ρ1 S1 p σ1 H1 L1 e1 st1 => ?_⟩
      exact ⟨ρ1, S1, O, L1, _, st1, b.ext e1, R.sat_mono p fun _ _ z => z.ext e1⟩
theorem dg_tup {k : Nat} {g : MEs} (hc : X.calm = true) (hK : X.K = B.K) (h : PGs X es (tGs B g)) (hs : es.all (fun e => !isStar e) = true) : PG X (.Tuple es k pos) (tG B (tupE es.length g)) := by
  obtain ⟨a1, a2⟩ := noStarT (env := X.env) hs
  refine pgW (pg_tup hc h a1 a2) fun v σ H Q ⟨ρ, S, O, L, d, st, r, h⟩ => ?_
  unfold tupE at h
  split at h
  · rename_i xs hx
    obtain ⟨hl, h⟩ := sat_guard.mp h
    obtain ⟨a, vs, rfl, h1, h2⟩ := tup_of r hx
    rw [hK]
    exact ⟨a, vs, rfl, h1, by rw [h2.length]; exact of_decide_eq_true hl, ρ, S, O, L, xs, st, h2, h⟩
  · exact h.elim
end

/-! ### what is walked -/
/-- from the heap M on: n items, told by ds; a turn may lay one tuple -/
structure WalkD (B : Bs) (M : Hp) (L0 : List Addr) (ds : List D) (J : It) : Prop where
  len : ds.length ≤ sizeLine
  go : ∀ i H2, i < ds.length → Sta M H2 → J.go i H2
  stop : ∀ H2, Sta M H2 → J.stop ds.length H2
  yld : ∀ i H2 x H3, i < ds.length → Sta M H2 → J.yld i H2 x H3 → ∃ d, ds[i]? = some d ∧ ((H3 = H2 ∧ Rep B L0 M x d) ∨ ∃ T vs es, d = .tup es ∧ x = .ref T ∧ H2 T = none ∧ H3 = upd H2 T (.tup vs) ∧ Reps B L0 M vs es)
def tI (B : Bs) (f : ML) : TI := fun σ H R => ∃ ρ S O L, StOk B O σ H ρ S L ∧ (f ρ S).sat fun ds S' => ∀ J H' L', Ext O L H L' H' → StoOk B O L' H' S' → TabsN B.tabs H' → WalkD B (hid (O ++ L') H') L' ds J → R J H'
/-- iterating a value -/
def ItrR (X : Cx) (tg : Expr) (r : V → Hp → (It → Hp → Prop) → Prop) : Prop := ∀ (pins : List (Addr × Obj)) (s : Shared) (σ : L2.St) (H : Hp) (x : V) (v : Value) (R : It → Hp → Prop), Inv X pins σ H s → RelV x v → r x H R → wpAny (model X.prog X.w) X.A (pyIter v) (PIE X pins σ tg R) X.xe s
theorem ItrR.or {X : Cx} {tg : Expr} {r r' : V → Hp → (It → Hp → Prop) → Prop} (h : ItrR X tg r) (h' : ItrR X tg r') : ItrR X tg fun x H R => r x H R ∨ r' x H R := by
  intro pins s σ H x v R I rx q
  exact q.elim (h pins s σ H x v R I rx) (h' pins s σ H x v R I rx)
section
variable {X : Cx} {tg : Expr} {B : Bs}
theorem pi_of {l : Expr} {tl : TE} {r : V → Hp → (It → Hp → Prop) → Prop} (hl : PE X l tl) (h : ItrR X tg r) : PI X tg l (fun σ H R => tl σ H fun x H1 => r x H1 R) :=
  ⟨fun pins s σ H R I q => thn (hl.run pins s σ H _ I q) fun v s1 ⟨x, H1, I1, r1, q1⟩ => h pins s1 σ H1 x v R I1 r1 q1⟩
theorem one_fp {pins : List (Addr × Obj)} {σ : L2.St} {H : Hp} {s : Shared} (I : Inv X pins σ H s) : ∀ b ∈ [s.heap.objs.size], FpOk X pins H b := fun b hb => by
  obtain rfl : b = s.heap.objs.size := by simpa using hb
  exact I.fpOk (Nat.le_refl _) (I.hok.fresh (Nat.le_refl _))
theorem itr_list : ItrR X tg fun x H R => ∃ a xs, x = .ref a ∧ SqL X.K H a xs ∧ (xs.length ≤ sizeLine → R (Itl X.K a) H) := by
  rintro pins s σ H x v R I rx ⟨a, xs, rfl, hq, q⟩
  cases rx
  obtain ⟨its, rv, p, hz⟩ := I.list hq
  exact wpAny_pyIter_list p.isList ⟨s.heap.objs.size, [s.heap.objs.size], _, _, H, rfl, I.kept (t' := s.toks) fun b o e => Heap.get?_push_of_some _ e, turn_list a _, ⟨_, Heap.get?_push_size _ rfl, rfl, rfl⟩, one_fp I, q hz⟩
theorem itr_tup : ItrR X tg fun x H R => ∃ a xs, x = .ref a ∧ SqT X.K H a xs ∧ (xs.length ≤ sizeLine → R (Itt X.K a) H) := by
  rintro pins s σ H x v R I rx ⟨a, xs, rfl, hq, q⟩
  cases rx
  obtain ⟨its, rv, p, hz⟩ := I.tuple hq
  exact wpAny_pyIter_tuple (show s.heap.IsTuple a its.toArray from p) ⟨s.heap.objs.size, [s.heap.objs.size], _, _, H, rfl, I.kept (t' := s.toks) fun b o e => Heap.get?_push_of_some _ e, turn_tuple a _, ⟨_, Heap.get?_push_size _ rfl, rfl, rfl⟩, one_fp I, q hz⟩
theorem piW {l : Expr} {t t' : TI} (h : PI X tg l t) (w : ∀ σ H R, t' σ H R → t σ H R) : PI X tg l t' := ⟨fun pins s σ H R I q => h.run pins s σ H R I (w σ H R q)⟩
/-- what is walked by its items: a tuple, a list that doesn't change -/
def flatD : D → Option (List D)
  | .tup xs => some xs
  | .lst xs => some xs
  | _ => none
def seqI (f : MD) : ML := fun ρ S => (f ρ S).bind fun d S1 => lift (flatD d) S1
theorem walkD_list {K : PySem.W.Frag} {M : Hp} {L : List Addr} {a : Addr} {vs : List V} {ds : List D} (hK : K = B.K) (h : Rd M a (.lst vs)) (r : Reps B L M vs ds) (hz : vs.length ≤ sizeLine) : WalkD B M L ds (Itl K a) := by
  have hl := r.length
  refine ⟨by omega, fun i H2 hi s => ?_, fun H2 s => ⟨vs, .inl (s.rdL h), by omega⟩, fun i H2 x H3 hi s y => ?_⟩
  · obtain ⟨v, hv, _⟩ := r.get (List.getElem?_eq_getElem hi)
    exact ⟨vs, v, .inl (s.rdL h), hv⟩
  · obtain ⟨v, hv, rv⟩ := r.get (List.getElem?_eq_getElem hi)
    obtain ⟨e1, e2⟩ := y
    have := e2 vs (.inl (s.rdL h))
    rw [hv] at this
    cases this
    exact ⟨_, List.getElem?_eq_getElem hi, .inl ⟨e1, rv⟩⟩
theorem walkD_tup {K : PySem.W.Frag} {M : Hp} {L : List Addr} {a : Addr} {vs : List V} {ds : List D} (hK : K = B.K) (h : SqT B.K M a vs) (r : Reps B L M vs ds) (hz : vs.length ≤ sizeLine) : WalkD B M L ds (Itt K a) := by
  subst hK
  have hl := r.length
  refine ⟨by omega, fun i H2 hi s => ?_, fun H2 s => ⟨vs, s.seqT h, by omega⟩, fun i H2 x H3 hi s y => ?_⟩
  · obtain ⟨v, hv, _⟩ := r.get (List.getElem?_eq_getElem hi)
    exact ⟨vs, v, s.seqT h, hv⟩
  · obtain ⟨v, hv, rv⟩ := r.get (List.getElem?_eq_getElem hi)
    obtain ⟨e1, e2⟩ := y
    have := e2 vs (s.seqT h)
    rw [hv] at this
    cases this
    exact ⟨_, List.getElem?_eq_getElem hi, .inl ⟨e1, rv⟩⟩
theorem di_seq {l : Expr} {f : MD} (hK : X.K = B.K) (hl : PE X l (tD B f)) : PI X tg l (tI B (seqI f)) :=
  piW (pi_of hl (itr_list.or itr_tup)) fun σ H RR ⟨ρ, S, O, L, st, h⟩ => by
    unfold seqI at h
    rw [R.sat_bind] at h
    refine ⟨ρ, S, O, L, st, R.sat_mono h fun d S1 p v H1 L1 e1 r1 o1 t1 => ?_⟩
    obtain ⟨ds, hd, p⟩ := sat_lift.mp p
    cases d with
    | tup xs =>
      cases hd
      cases r1 with
      | tup h1 h2 => exact .inr ⟨_, _, rfl, by rw [hK]; exact (hid_sta _ _).seqT h1, fun hz => p _ H1 L1 e1 o1 t1 (walkD_tup hK h1 h2 hz)⟩
    | lst xs =>
      cases hd
      cases r1 with
      | lst h1 h2 => exact .inl ⟨_, _, rfl, .inl ((hid_sta _ _).rdL h1), fun hz => p _ H1 L1 e1 o1 t1 (walkD_list hK h1 h2 hz)⟩
    | _ => cases hd
/-! range -/
def rngD (a b : Int) : List D := (List.range (b - a).toNat).map fun (i : Nat) => D.int (a + i)
theorem rngD_len (a b : Int) : (rngD a b).length = (b - a).toNat := by unfold rngD; rw [List.length_map, List.length_range]
def smallI (i : Int) : Bool := Nat.ble i.natAbs 1000000000000
def rng1 (fr : ML) : ML := fun ρ S => (fr ρ S).bind fun xs S1 => match xs with
  | [.int n] => guardR (smallI n && decide ((n - 0).toNat ≤ lim)) (.ok (rngD 0 n) S1)
  | _ => .bad
def rng2 (fr : ML) : ML := fun ρ S => (fr ρ S).bind fun xs S1 => match xs with
  | [.int m, .int n] => guardR (smallI m && smallI n && decide ((n - m).toNat ≤ lim)) (.ok (rngD m n) S1)
  | _ => .bad
theorem rngD_get {a b : Int} {i : Nat} (h : i < (b - a).toNat) : (rngD a b)[i]? = some (D.int (a + i)) := by
  unfold rngD
  rw [List.getElem?_map, List.getElem?_range h]
  rfl
theorem walkD_rng {M : Hp} {L : List Addr} {a b : Int} (hz : (b - a).toNat ≤ lim) : WalkD B M L (rngD a b) (Itr a (b - a).toNat) := by
  refine ⟨by rw [rngD_len]; exact lim_line hz, fun i H2 hi s => by rw [rngD_len] at hi; exact hi, fun H2 s => by rw [rngD_len]; exact Nat.le_refl _, fun i H2 x H3 hi s y => ?_⟩
  rw [rngD_len] at hi
  obtain ⟨e1, e2⟩ := y
  subst e2
  exact ⟨_, rngD_get hi, .inl ⟨e1, .int _⟩⟩
theorem smallI_of {i : Int} (h : smallI i = true) : -(2 ^ 62) ≤ i ∧ i < 2 ^ 62 := by
  have := Nat.le_of_ble_eq_true h
  constructor <;> omega
theorem di_rng1 {a : Expr} {fr : ML} {p pos : Pos} (hg : Gl X "range") (hm : X.mg "range" = none) (ha : PA X [a] (tA B fr)) (hs : isStar a = false) : PI X tg (.Call (.Name "range" p) [a] [] pos) (tI B (rng1 fr)) :=
  piW (pi_range1 hg hm ha (starEach_cons hs)) fun σ H RR ⟨ρ, S, O, L, st, h⟩ => by
    unfold rng1 at h
    rw [R.sat_bind] at h
    refine ⟨ρ, S, O, L, st, R.sat_mono h fun xs S1 p vs H1 L1 e1 r1 o1 t1 => ?_⟩
    split at p
    · obtain ⟨v, rfl, r2⟩ := reps1 r1
      cases r2
      obtain ⟨hn, p⟩ := sat_guard.mp p
      obtain ⟨hn, hz⟩ := and2 hn
      obtain ⟨h1, h2⟩ := smallI_of hn
      refine ⟨_, rfl, h1, h2, ?_⟩
      have q := p (Itr 0 ((_ : Int) - 0).toNat) H1 L1 e1 o1 t1 (walkD_rng (of_decide_eq_true hz))
      simpa using q
    · exact p.elim
theorem di_rng2 {a b : Expr} {fr : ML} {p pos : Pos} (hg : Gl X "range") (hm : X.mg "range" = none) (ha : PA X [a, b] (tA B fr)) (hs : isStar a = false) (hs2 : isStar b = false) : PI X tg (.Call (.Name "range" p) [a, b] [] pos) (tI B (rng2 fr)) :=
  piW (pi_range2 hg hm ha (by rw [starEach_cons hs, starEach_cons hs2] <;> rfl) (starEach_cons hs2)) fun σ H RR ⟨ρ, S, O, L, st, h⟩ => by
    unfold rng2 at h
    rw [R.sat_bind] at h
    refine ⟨ρ, S, O, L, st, R.sat_mono h fun xs S1 p vs H1 L1 e1 r1 o1 t1 => ?_⟩
    split at p
    · obtain ⟨v, w, rfl, r2, r3⟩ := reps2 r1
      cases r2
      cases r3
      obtain ⟨hn, p⟩ := sat_guard.mp p
      obtain ⟨hn, hz⟩ := and2 hn
      obtain ⟨hm, hn⟩ := and2 hn
      obtain ⟨h1, h2⟩ := smallI_of hm
      obtain ⟨h3, h4⟩ := smallI_of hn
      exact ⟨_, _, rfl, ⟨h1, h2, h3, h4⟩, p _ H1 L1 e1 o1 t1 (walkD_rng (of_decide_eq_true hz))⟩
    · exact p.elim
end

/-! enumerate of a tuple -/
set_option maxHeartbeats 1000000 in
theorem enum_newB {v : Value} {o : Obj} {H : Heap → Prop} (B : Begins v o H) :
    Meets (Builtin.«enumerate.__new__» ⟨[.type "enumerate", v], []⟩) (fun _ RR s => H s.heap ∧
      RR (.ok (.ret (.ref (s.heap.push o).objs.size))) { s with heap := (s.heap.push o).push { cls := .type "enumerate", data := .fields #[.none, .bool false, .ref s.heap.objs.size, rawInt 0, .none, .none] } }) :=
  .of_wp fun prog w A RR s h => by
    obtain ⟨hp, g, d, tk, os⟩ := s
    obtain ⟨h1, h⟩ := h
    have hs := sub_enumerate
    have it : ∀ {A' : Around} {E : Value → Shared → Prop} {Q : Value → Shared → Prop}, Q (.ref hp.objs.size) ⟨hp.push o, g, d, tk, os⟩ → wpAny (model prog w) A' (pyIter v) Q E ⟨hp, g, d, tk, os⟩ := fun q => B.iter prog w _ _ ⟨hp, g, d, tk, os⟩ _ h1 q
    wp_walk using it
    refine wpAny_stack_any fun st => wpAny_pure ?_
    split
    · rename_i c _ _ _ _ _
      cases (c == Value.type "enumerate") <;> (wp_walk using it; exact ⟨_, rfl, h⟩)
    · wp_walk using it
      exact ⟨_, rfl, h⟩
theorem enum_beginsB {prog : Program} {w : World} {A : Around} {E : Value → Shared → Prop} {s : Shared} {v : Value} {o : Obj} {H : Heap → Prop} {Q : Value → Shared → Prop} (B : Begins v o H) (h1 : H s.heap)
    (h : ∀ h', IsEnum h' (s.heap.objs.size + 1) s.heap.objs.size 0 .none → h'.get? s.heap.objs.size = some o → h'.objs.size = s.heap.objs.size + 2 → (∀ b u, s.heap.get? b = some u → h'.get? b = some u) → Q (.ref (s.heap.objs.size + 1)) { s with heap := h' }) :
    wpAny (model prog w) A (call (.type "enumerate") [v]) Q E s := by
  refine callType_new F.called_enumerate (by decide) (F.typeCall_enumerate_1 _) (F.newCall_enumerate_1 _) (fun obj => F.args_object_init_2 obj _) F.entry_enumerate_new (enum_newB B) ⟨h1, ?_⟩
  have hz : (s.heap.push o).objs.size = s.heap.objs.size + 1 := Heap.size_push ..
  show _ ∧ _
  rw [hz]
  have he : IsEnum ((s.heap.push o).push { cls := .type "enumerate", data := .fields #[.none, .bool false, .ref s.heap.objs.size, rawInt 0, .none, .none] }) (s.heap.objs.size + 1) s.heap.objs.size 0 .none := by
    have q := Heap.get?_push_size (s.heap.push o) (o := { cls := .type "enumerate", data := .fields #[.none, .bool false, .ref s.heap.objs.size, rawInt 0, .none, .none] }) rfl
    rw [hz] at q
    exact q
  exact ⟨⟨_, he, rfl⟩, h _ he (Heap.get?_push_of_some _ (Heap.get?_push_size _ B.free)) (by rw [Heap.size_push, hz]) fun b u x => Heap.get?_push_of_some _ (Heap.get?_push_of_some _ x)⟩
def IteT (K : PySem.W.Frag) (a : Addr) : It :=
  ⟨fun i H => ∃ xs x, SqT K H a xs ∧ xs[i]? = some x, fun i H v H' => ∃ T x, v = .ref T ∧ H T = none ∧ H' = upd H T (.tup [.int (i : Nat), x]) ∧ ∀ xs, SqT K H a xs → xs[i]? = some x, fun i H => ∃ xs, SqT K H a xs ∧ xs.length = i⟩
section
variable {X : Cx} {B : Bs}
theorem turn_enumT {P : Program} {w : World} {K : PySem.W.Frag} {elts : List Expr} {kk : Nat} {tpos : Pos} (a e it : Addr) :
    Turn P w K (.Tuple elts kk tpos) (IteT K a) [e, it] e (fun i h => (∃ old, IsEnum h e it ((i : Nat) : Int) old) ∧ h.IsTupleIter it a i ∧ e ≠ it ∧ a ≠ it ∧ a ≠ e) where
  mem := by simp
  obj := fun i h st b hb => by
    obtain ⟨⟨old, he⟩, ⟨o, ho, hc, hd⟩, _⟩ := st
    rcases (show b = e ∨ b = it by simpa using hb) with z | z
    · rw [z]
      exact ⟨_, he, fun v => nofun⟩
    · rw [z]
      exact ⟨o, ho, fun v q => by rw [hd] at q; cases q⟩
  keep := fun i h h' st k => by
    obtain ⟨⟨old, he⟩, hi, hne⟩ := st
    exact ⟨⟨old, k e (by simp) _ he⟩, hi.at fun o q => k it (by simp) o q, hne⟩
  item := by
    intro X hP hw hK hc i pins s σ H E I hf st hg
    subst hP hw hK
    obtain ⟨⟨old, he⟩, hit, hne, hai, hae⟩ := st
    obtain ⟨xs, x, hq, hx⟩ := hg
    obtain ⟨its, rv, p, hz⟩ := I.tuple hq
    obtain ⟨u, hu, ru⟩ := rv.get hx
    have hil : i < its.length := (List.getElem?_eq_some_iff.mp hu).1
    have hel : e < s.heap.objs.size := Heap.lt_size he
    have hitl : it < s.heap.objs.size := by
      obtain ⟨_, q, _⟩ := hit
      exact Heap.lt_size q
    refine wpAny_pyNext_enum_itemD (Draws.tuple (A := X.A.in1) (I.ok.hd hc) it a hai its.toArray) he ⟨hit, show s.heap.IsTuple a its.toArray from p⟩ (by simpa using hil) hne (by simp [hne, Ne.symm hae]) fun y h' tk hy ho hst hT hsz hk => ?_
    have hy : u = y := by
      have q : its[i]? = some y := by simpa using hy
      rw [hu] at q
      exact Option.some.inj q
    subst hy
    refine ⟨_, rfl, wpAny_letOwnedTupleGo_enum (s := { s with heap := h', toks := tk + 1 }) ho fun h'' he' sb => ?_⟩
    have hT2 : h''.get? s.heap.objs.size = some { cls := .type "tuple", data := .seq #[.int i tk, u] } := (sb.2 _ (Nat.ne_of_gt hel)).trans hT
    have new : ObjOk X.prog X.w (upd H s.heap.objs.size (.tup [.int (i : Nat), x])) h'' s.heap.objs.size (.tup [.int (i : Nat), x]) :=
      ⟨by show 2 ≤ sizeLine; decide, [.int i tk, u], .cons ⟨_, rfl⟩ (.cons ru .nil), ⟨_, hT2, rfl, _, rfl⟩⟩
    have I1 : Inv X pins σ (upd H s.heap.objs.size (.tup [.int (i : Nat), x])) { s with heap := h'', toks := tk + 1 } :=
      I.turnedNew (ch := [e, it]) (fun b ob hb q => (sb.2 b (fun z => hb (by simp [z]))).trans (hk b ob (fun z => hb (by simp [z])) (fun z => hb (by simp [z])) q)) hf (Nat.le_refl _) new
    refine ⟨.ref s.heap.objs.size, _, I1, rfl, ⟨_, x, rfl, I.hok.fresh (Nat.le_refl _), rfl, fun ys hy => by rw [I.tuple_inj hy hq]; exact hx⟩, ⟨⟨u, ?_⟩, hst.1.at fun o q => (sb.2 it (Ne.symm hne)).trans q, hne, hai, hae⟩, fun b hb => ?_⟩
    · rw [show ((i + 1 : Nat) : Int) = (i : Int) + 1 by omega]
      exact he'
    · have hb' : b < s.heap.objs.size := by
        rcases (show b = e ∨ b = it by simpa using hb) with z | z <;> rw [z] <;> assumption
      rw [upd_ne (Nat.ne_of_lt hb')]
      exact (hf b hb).1
  done := by
    intro X hP hw hK hc i pins s σ H E I hf st hg
    subst hP hw hK
    obtain ⟨⟨old, he⟩, hit, hne, hai, hae⟩ := st
    obtain ⟨xs, hq, hx⟩ := hg
    obtain ⟨its, rv, p, hz⟩ := I.tuple hq
    obtain ⟨f0, f1, f2, f3, f4, f5⟩ := hf it (by simp)
    have hl := rv.length
    subst hx
    refine wpAny_pyNext_enum_endD (Draws.tuple (A := X.A.in1) (I.ok.hd hc) it a hai its.toArray) he ⟨by rw [List.size_toArray, ← hl]; exact hit, show s.heap.IsTuple a its.toArray from p⟩ fun h' eb => ⟨rfl, I.turned (t' := s.toks) (fun b o hb q => eb b o hb q) f0 f1 f3 f4 f5⟩
  self := fun A i s Q E st h => by
    obtain ⟨⟨_, he⟩, _⟩ := st
    exact wpAny_pyIter_enum he h
def iEnumA (K : PySem.W.Frag) (ta : TA) : TI := fun σ H RR => ta σ H fun vs H1 => (∃ a xs, vs = [.ref a] ∧ SqL K H1 a xs ∧ (xs.length ≤ sizeLine → RR (Ite K a) H1)) ∨ ∃ a xs, vs = [.ref a] ∧ SqT K H1 a xs ∧ (xs.length ≤ sizeLine → RR (IteT K a) H1)
theorem two_fp {pins : List (Addr × Obj)} {σ : L2.St} {H : Hp} {s : Shared} (I : Inv X pins σ H s) : ∀ b ∈ [s.heap.objs.size + 1, s.heap.objs.size], FpOk X pins H b := fun b hb => by
  have hle : s.heap.objs.size ≤ b := by
    rcases (show b = s.heap.objs.size + 1 ∨ b = s.heap.objs.size by simpa using hb) with z | z
    · rw [z]; exact Nat.le_succ _
    · rw [z]; exact Nat.le_refl _
  exact I.fpOk hle (I.hok.fresh hle)
theorem pi_enumA {e : Expr} {ta : TA} {p pos tpos : Pos} {elts : List Expr} {kk : Nat} (hg : Gl X "enumerate") (hm : X.mg "enumerate" = none) (ha : PA X [e] ta) (hs : starEach [e] X.env = [(false, eval e X.env)]) :
    PI X (.Tuple elts kk tpos) (.Call (.Name "enumerate" p) [e] [] pos) (iEnumA X.K ta) := by
  refine ⟨fun pins s σ H RR I h => ?_⟩
  refine Call_ (ld_blt I hg hm boot_enumerate (PyProof.Rows.callWith_type1 (thn (ha.run pos pins s σ H _ I h) fun us s1 ⟨vs, H1, I1, r1, q1⟩ => ?_) hs rfl))
  rcases q1 with ⟨a, xs, rfl, hq, q⟩ | ⟨a, xs, rfl, hq, q⟩
  · rw [Vals.ref1 r1]
    obtain ⟨its, rv, p', hz⟩ := I1.list hq
    refine call_enumerate_list p'.isList fun h' he hit hsz hk => wpAny_pyIter_enum he ?_
    exact ⟨s1.heap.objs.size + 1, [s1.heap.objs.size + 1, s1.heap.objs.size], _, _, H1, rfl, I1.kept (t' := s1.toks) hk, turn_enum a (s1.heap.objs.size + 1) s1.heap.objs.size, ⟨⟨.none, he⟩, hit, Nat.succ_ne_self _⟩, two_fp I1, q hz⟩
  · rw [Vals.ref1 r1]
    obtain ⟨its, rv, p', hz⟩ := I1.tuple hq
    have hal : a < s1.heap.objs.size := by
      obtain ⟨o, ho, _⟩ := p'
      exact Heap.lt_size ho
    refine enum_beginsB (begins_tuple a its.toArray) (show s1.heap.IsTuple a its.toArray from p') fun h' he hit hsz hk => wpAny_pyIter_enum he ?_
    exact ⟨s1.heap.objs.size + 1, [s1.heap.objs.size + 1, s1.heap.objs.size], _, _, H1, rfl, I1.kept (t' := s1.toks) hk, turn_enumT a (s1.heap.objs.size + 1) s1.heap.objs.size, ⟨⟨.none, he⟩, ⟨_, hit, rfl, rfl⟩, Nat.succ_ne_self _, Nat.ne_of_lt hal, Nat.ne_of_lt (Nat.lt_succ_of_lt hal)⟩, two_fp I1, q hz⟩
def enumD : Nat → List D → List D
  | _, [] => []
  | k, d :: r => .tup [.int k, d] :: enumD (k + 1) r
theorem enumD_len : ∀ (k : Nat) (ds : List D), (enumD k ds).length = ds.length
  | _, [] => rfl
  | k, d :: r => congrArg (· + 1) (enumD_len (k + 1) r)
theorem enumD_get : ∀ (k : Nat) (ds : List D) (i : Nat) (d : D), ds[i]? = some d → (enumD k ds)[i]? = some (.tup [.int ((k + i : Nat) : Int), d])
  | k, d :: r, 0, e, h => by
    have : d = e := by simpa using h
    subst this
    rfl
  | k, d :: r, i + 1, e, h => by
    have q := enumD_get (k + 1) r i e (by simpa using h)
    rw [show k + 1 + i = k + (i + 1) by omega] at q
    simpa [enumD] using q
def enumI (fr : ML) : ML := fun ρ S => (fr ρ S).bind fun xs S1 => match xs with
  | [d] => (lift (flatD d) S1).bind fun ds S2 => .ok (enumD 0 ds) S2
  | _ => .bad
theorem walkD_enumL {K : PySem.W.Frag} {M : Hp} {L : List Addr} {a : Addr} {vs : List V} {ds : List D} (h : Rd M a (.lst vs)) (r : Reps B L M vs ds) (hz : vs.length ≤ sizeLine) : WalkD B M L (enumD 0 ds) (Ite K a) := by
  have hl := r.length
  refine ⟨by rw [enumD_len]; omega, fun i H2 hi s => ?_, fun H2 s => ⟨vs, .inl (s.rdL h), by rw [enumD_len]; omega⟩, fun i H2 x H3 hi s y => ?_⟩
  · rw [enumD_len] at hi
    obtain ⟨v, hv, _⟩ := r.get (List.getElem?_eq_getElem hi)
    exact ⟨vs, v, .inl (s.rdL h), hv⟩
  · rw [enumD_len] at hi
    obtain ⟨v, hv, rv⟩ := r.get (List.getElem?_eq_getElem hi)
    obtain ⟨T, z, e1, e2, e3, e4⟩ := y
    have e4 := e4 vs (.inl (s.rdL h))
    rw [hv] at e4
    cases e4
    refine ⟨_, enumD_get 0 ds i _ (List.getElem?_eq_getElem hi), .inr ⟨T, _, _, rfl, e1, e2, e3, .cons ?_ (.cons rv .nil)⟩⟩
    rw [Nat.zero_add]
    exact .int _
theorem walkD_enumT {K : PySem.W.Frag} {M : Hp} {L : List Addr} {a : Addr} {vs : List V} {ds : List D} (hK : K = B.K) (h : SqT B.K M a vs) (r : Reps B L M vs ds) (hz : vs.length ≤ sizeLine) : WalkD B M L (enumD 0 ds) (IteT K a) := by
  subst hK
  have hl := r.length
  refine ⟨by rw [enumD_len]; omega, fun i H2 hi s => ?_, fun H2 s => ⟨vs, s.seqT h, by rw [enumD_len]; omega⟩, fun i H2 x H3 hi s y => ?_⟩
  · rw [enumD_len] at hi
    obtain ⟨v, hv, _⟩ := r.get (List.getElem?_eq_getElem hi)
    exact ⟨vs, v, s.seqT h, hv⟩
  · rw [enumD_len] at hi
    obtain ⟨v, hv, rv⟩ := r.get (List.getElem?_eq_getElem hi)
    obtain ⟨T, z, e1, e2, e3, e4⟩ := y
    have e4 := e4 vs (s.seqT h)
    rw [hv] at e4
    cases e4
    refine ⟨_, enumD_get 0 ds i _ (List.getElem?_eq_getElem hi), .inr ⟨T, _, _, rfl, e1, e2, e3, .cons ?_ (.cons rv .nil)⟩⟩
    rw [Nat.zero_add]
    exact .int _
theorem di_enum {e : Expr} {fr : ML} {p pos tpos : Pos} {elts : List Expr} {kk : Nat} (hK : X.K = B.K) (hg : Gl X "enumerate") (hm : X.mg "enumerate" = none) (ha : PA X [e] (tA B fr)) (hs : isStar e = false) :
    PI X (.Tuple elts kk tpos) (.Call (.Name "enumerate" p) [e] [] pos) (tI B (enumI fr)) :=
  piW (pi_enumA hg hm ha (starEach_cons hs)) fun σ H RR ⟨ρ, S, O, L, st, h⟩ => by
    unfold enumI at h
    rw [R.sat_bind] at h
    refine ⟨ρ, S, O, L, st, R.sat_mono h fun xs S1 p vs H1 L1 e1 r1 o1 t1 => ?_⟩
    split at p
    · rename_i d
      obtain ⟨v, rfl, r2⟩ := reps1 r1
      rw [R.sat_bind] at p
      obtain ⟨ds, hd, p⟩ := sat_lift.mp p
      cases d with
      | tup xs =>
        cases hd
        cases r2 with
        | tup h1 h2 => exact .inr ⟨_, _, rfl, by rw [hK]; exact (hid_sta _ _).seqT h1, fun hz => p _ H1 L1 e1 o1 t1 (walkD_enumT hK h1 h2 hz)⟩
      | lst xs =>
        cases hd
        cases r2 with
        | lst h1 h2 => exact .inl ⟨_, _, rfl, .inl ((hid_sta _ _).rdL h1), fun hz => p _ H1 L1 e1 o1 t1 (walkD_enumL h1 h2 hz)⟩
      | _ => cases hd
    · exact p.elim
end
end PD


set_option Elab.async false
set_option linter.all false
set_option maxRecDepth 100000
set_option maxHeartbeats 4000000
/-! PD6: list comprehensions. -/
namespace PD
open PySem PySem.Spec PyProof.Rows L2 LamX NdefX

/-! ### a list that is being made -/
theorem hid_in {M : List Addr} {H : Hp} {p : Addr} {u : HO} (h : p ∈ M) : hid M (upd H p u) = hid M H := by
  funext b
  unfold hid
  split
  · rfl
  · rename_i hn
    exact upd_ne fun z => hn (z ▸ h)
theorem hid_more {O L : List Addr} {H : Hp} {p : Addr} : Sta (hid (p :: O ++ L) H) (hid (O ++ L) H) := fun b o h _ => by
  obtain ⟨h1, h2⟩ := hid_some h
  exact hid_of (fun z => h1 (List.mem_cons_of_mem _ z)) h2
theorem hid_start {O L : List Addr} {H : Hp} {p : Addr} {u : HO} (hp : H p = none) : Sta (hid (O ++ L) H) (hid (p :: O ++ L) (upd H p u)) := fun b o h _ => by
  obtain ⟨h1, h2⟩ := hid_some h
  have hb := ne_of_none h2 hp
  refine hid_of (fun z => ?_) (by rw [upd_ne hb]; exact h2)
  rcases List.mem_cons.mp z with z | z
  · exact hb z
  · exact h1 z
section
variable {B : Bs} {O L : List Addr} {H : Hp} {S : Sto} {p : Addr} {u : HO}
theorem MRep.sta {O' : List Addr} {L' : List Addr} {H' : Hp} {a : Addr} {m : MO} (h : MRep B O L H a m) (hp : L <+: L') (hs : Sta (hid (O ++ L) H) (hid (O' ++ L') H')) (k : H' a = H a) : MRep B O' L' H' a m := by
  cases m with
  | lst ds =>
    obtain ⟨vs, h1, h2⟩ := h
    exact ⟨vs, by rw [k]; exact h1, Reps.mono hp hs _ _ h2⟩
  | dct ds =>
    obtain ⟨vs, h1, h2, h3⟩ := h
    exact ⟨vs, by rw [k]; exact h1, h2, Reps.mono hp hs _ _ h3⟩
theorem StoOk.start {ys : List V} (o : StoOk B O L H S) (hp : H p = none) : StoOk B (p :: O) L (upd H p (.lst ys)) S := by
  have f := o.fresh hp
  refine ⟨o.len, o.nd, fun n m hm => ?_, fun a ha => ?_⟩
  · obtain ⟨a, h1, h2⟩ := o.at_ n m hm
    exact ⟨a, h1, h2.sta (List.prefix_refl _) (hid_start hp) (upd_ne fun z => f (List.mem_append_right _ (by rw [← z]; exact List.mem_of_getElem? h1)))⟩
  · rcases List.mem_cons.mp ha with rfl | ha
    · exact ⟨⟨ys, upd_same⟩, fun z => f (List.mem_append_right _ z)⟩
    · obtain ⟨h1, h2⟩ := o.obs a ha
      have q : a ≠ p := fun z => f (List.mem_append_left _ (by rw [← z]; exact ha))
      exact ⟨by rw [upd_ne q]; exact h1, h2⟩
theorem StoOk.stop (o : StoOk B (p :: O) L H S) : StoOk B O L H S :=
  ⟨o.len, o.nd, fun n m hm => let ⟨a, h1, h2⟩ := o.at_ n m hm; ⟨a, h1, h2.sta (List.prefix_refl _) hid_more rfl⟩, fun a ha => o.obs a (List.mem_cons_of_mem _ ha)⟩
theorem StoOk.upd {ys : List V} (o : StoOk B (p :: O) L H S) : StoOk B (p :: O) L (L2.upd H p (.lst ys)) S := by
  obtain ⟨_, hpl⟩ := o.obs p List.mem_cons_self
  refine ⟨o.len, o.nd, fun n m hm => ?_, fun a ha => ?_⟩
  · obtain ⟨a, h1, h2⟩ := o.at_ n m hm
    have q : a ≠ p := fun z => hpl (by rw [← z]; exact List.mem_of_getElem? h1)
    exact ⟨a, h1, h2.sta (List.prefix_refl _) (by rw [hid_in (List.mem_append_left _ List.mem_cons_self)]; exact ExtN.refl _) (upd_ne q)⟩
  · obtain ⟨h1, h2⟩ := o.obs a ha
    refine ⟨?_, h2⟩
    by_cases q : a = p
    · exact ⟨ys, by rw [q, upd_same]⟩
    · rw [upd_ne q]
      exact h1
theorem tabs_upd {T : List NTab} (t : TabsN T H) (hp : ∀ q ∈ T, q.1 ≠ p) (hc : ∀ b q, H b = some (CodeO b q) → b ≠ p) : TabsN T (L2.upd H p u) := fun q hq => by
  obtain ⟨ps, h1, h2, h3⟩ := t q hq
  refine ⟨ps, by rw [upd_ne (hp q hq)]; exact h1, h2, fun pos cv hcv => ?_⟩
  obtain ⟨c, e1, e2⟩ := h3 pos cv hcv
  exact ⟨c, e1, by rw [upd_ne (hc _ _ e2)]; exact e2⟩
theorem tabs_updL {T : List NTab} {xs : List V} (t : TabsN T H) (h : H p = some (.lst xs)) : TabsN T (L2.upd H p u) := by
  refine tabs_upd t (fun q hq z => ?_) fun b q hb z => ?_
  · obtain ⟨ps, h1, _⟩ := t q hq
    rw [z, h] at h1
    cases h1
  · rw [z, h] at hb
    unfold CodeO at hb
    cases hb
end

/-! ### targets of a comprehension: own names alone -/
def wipeE (ρ : Env) : List Nat → Env
  | [] => ρ
  | v :: vs => (wipeE ρ vs).set v none
theorem wipeE_len (ρ : Env) : ∀ vs : List Nat, (wipeE ρ vs).length = ρ.length
  | [] => rfl
  | v :: vs => by
    unfold wipeE
    rw [List.length_set, wipeE_len ρ vs]
theorem wipe_set {σ : L2.St} {i : Nat} {o : Option V} : ∀ {vs : List Nat}, i ∈ vs → wipe (σ.set i o) vs = wipe σ vs
  | v :: vs, h => by
    unfold wipe
    by_cases hv : i ∈ vs
    · rw [wipe_set hv]
    · have e : i = v := by
        rcases List.mem_cons.mp h with e | e
        · exact e
        · exact absurd e hv
      subst e
      have q : ∀ (ws : List Nat), i ∉ ws → wipe (σ.set i o) ws = (wipe σ ws).set i o := by
        intro ws
        induction ws with
        | nil => intro _; rfl
        | cons w ws ih =>
          intro hw
          simp only [List.mem_cons, not_or] at hw
          unfold wipe
          rw [ih hw.2, List.set_comm _ _ hw.1]
      rw [q vs hv, List.set_set]
theorem wipe_wipe (σ : L2.St) (vs : List Nat) : wipe (wipe σ vs) vs = wipe σ vs := by
  have get : ∀ (τ : L2.St) (ws : List Nat) (i : Nat), (wipe τ ws)[i]? = if i ∈ ws ∧ i < τ.length then some none else τ[i]? := by
    intro τ ws
    induction ws with
    | nil => intro i; simp [wipe]
    | cons w ws ih =>
      intro i
      unfold wipe
      by_cases h : w = i
      · subst h
        by_cases hl : w < τ.length
        · rw [List.getElem?_set_self (by rw [wipe_length]; exact hl)]
          simp [hl]
        · rw [List.getElem?_eq_none (by rw [List.length_set, wipe_length]; omega)]
          rw [List.getElem?_eq_none (by omega)]
          simp [hl]
      · rw [List.getElem?_set_ne h, ih i]
        simp [Ne.symm h, show ¬ i = w from fun z => h z.symm]
  apply List.ext_getElem?
  intro i
  rw [get, get, wipe_length]
  split <;> simp_all
theorem StOk.wipe {B : Bs} {O L : List Addr} {σ : L2.St} {H : Hp} {ρ : Env} {S : Sto} (s : StOk B O σ H ρ S L) (vs : List Nat) : StOk B O (L2.wipe σ vs) H (wipeE ρ vs) S L := by
  refine ⟨fun i d h => ?_, by rw [wipeE_len, wipe_length]; exact s.len, s.sto, s.tab⟩
  have key : ∀ ws : List Nat, (wipeE ρ ws)[i]? = some (some d) → ρ[i]? = some (some d) ∧ i ∉ ws := by
    intro ws
    induction ws with
    | nil => exact fun h => ⟨h, by simp⟩
    | cons w ws ih =>
      intro h
      unfold wipeE at h
      by_cases q : w = i
      · subst q
        by_cases hl : w < (wipeE ρ ws).length
        · rw [List.getElem?_set_self hl] at h
          cases h
        · rw [List.getElem?_eq_none (by rw [List.length_set]; omega)] at h
          cases h
      · rw [List.getElem?_set_ne q] at h
        obtain ⟨h1, h2⟩ := ih h
        exact ⟨h1, by simp [h2, show ¬ i = w from fun z => q z.symm]⟩
  have out : ∀ ws : List Nat, i ∉ ws → (L2.wipe σ ws)[i]? = σ[i]? := by
    intro ws
    induction ws with
    | nil => intro _; rfl
    | cons w ws ih =>
      intro hw
      simp only [List.mem_cons, not_or] at hw
      unfold L2.wipe
      rw [List.getElem?_set_ne (fun z => hw.1 z.symm), ih hw.2]
  obtain ⟨h1, h2⟩ := key vs h
  obtain ⟨v, h3, h4⟩ := s.env i d h1
  exact ⟨v, by rw [out vs h2]; exact h3, h4⟩
/-- a target whose names are all own ones -/
def PostC (B : Bs) (O L : List Addr) (H : Hp) (vs : List Nat) (σ : L2.St) (Q : L2.St → Hp → Prop) : Env → Sto → Prop := fun ρ' S' => ∀ σ' H' L', Ext O L H L' H' → StOk B O σ' H' ρ' S' L' → wipe σ' vs = wipe σ vs → Q σ' H'
def tGc (B : Bs) (vs : List Nat) (f : ME) : TG := fun v σ H Q => ∃ ρ S O L d, StOk B O σ H ρ S L ∧ Rep B L (hid (O ++ L) H) v d ∧ (f d ρ S).sat (PostC B O L H vs σ Q)
def tGsc (B : Bs) (vs : List Nat) (f : MEs) : TGs := fun us σ H Q => ∃ ρ S O L ds, StOk B O σ H ρ S L ∧ Reps B L (hid (O ++ L) H) us ds ∧ (f ds ρ S).sat (PostC B O L H vs σ Q)
section
variable {X : Cx} {B : Bs} {pos : Pos} {e : Expr} {es : List Expr} {vs : List Nat}
theorem dc_name {i : Nat} {x : Str} (hN : X.N.Nodup) (hi : X.N[i]? = some x) (hx : Loc X.env.scope x) (hf : X.fn x = true ∨ X.env.scope.names.lookup x = some .local) (hv : i ∈ vs) : PG X (.Name x pos) (tGc B vs (setE i)) :=
  pgW (pg_name hN hi hx hf) fun v σ H Q ⟨ρ, S, O, L, d, st, r, h⟩ => by
    obtain ⟨hl, h⟩ := sat_guard.mp h
    exact h _ H L (Ext.refl L H) (st.set r (of_decide_eq_true hl)) (wipe_set hv)
theorem dcs_nil : PGs X [] (tGsc B vs nilE) := pgsW pgs_nil fun us σ H Q ⟨ρ, S, O, L, ds, st, r, h⟩ => by
  cases r with
  | nil => exact ⟨rfl, h σ H L (Ext.refl L H) st rfl⟩
  | cons a b => exact h.elim
theorem dcs_cons {f : ME} {g : MEs} (h1 : PG X e (tGc B vs f)) (h2 : PGs X es (tGsc B vs g)) (hs : isStar e = false) : PGs X (e :: es) (tGsc B vs (consE f g)) :=
  pgsW (pgs_cons h1 h2 (assign_cons hs)) fun us σ H Q ⟨ρ, S, O, L, ds, st, r, h⟩ => by
    cases r with
    | nil => exact h.elim
    | cons a b =>
      have h : ((f _ ρ S).bind fun ρ1 S1 => g _ ρ1 S1).sat (PostC B O L H vs σ Q) := h
      rw [R.sat_bind] at h
      refine ⟨_, _, rfl, ρ, S, O, L, _, st, a, R.sat_mono h fun ρ1 S1 p σ1 H1 L1 e1 st1 w1 => ?_⟩
      exact ⟨ρ1, S1, O, L1, _, st1, b.ext e1, R.sat_mono p fun _ _ z σ' H' L' e' s' w' => z σ' H' L' (e1.trans e') s' (w'.trans w1)⟩
theorem dc_tup {k : Nat} {g : MEs} (hc : X.calm = true) (hK : X.K = B.K) (h : PGs X es (tGsc B vs g)) (hs : es.all (fun e => !isStar e) = true) : PG X (.Tuple es k pos) (tGc B vs (tupE es.length g)) := by
  obtain ⟨a1, a2⟩ := noStarT (env := X.env) hs
  refine pgW (pg_tup hc h a1 a2) fun v σ H Q ⟨ρ, S, O, L, d, st, r, h⟩ => ?_
  unfold tupE at h
  split at h
  · rename_i xs hx
    obtain ⟨hl, h⟩ := sat_guard.mp h
    obtain ⟨a, us, rfl, h1, h2⟩ := tup_of r hx
    rw [hK]
    exact ⟨a, us, rfl, h1, by rw [h2.length]; exact of_decide_eq_true hl, ρ, S, O, L, xs, st, h2, h⟩
  · exact h.elim
/-! tests -/
def yesM : MB := fun _ S => .ok true S
theorem ds_nil : PTs X [] (tT B yesM) := ⟨fun pins s σ H Q I ⟨ρ, S, O, L, st, h⟩ => pts_nil.run pins s σ H Q I (h H L (Ext.refl L H) st.sto st.tab)⟩
theorem ds_one {c : Expr} {f : MB} (h : PT X c (tT B f)) : PTs X [c] (tT B f) := pts_one h
end

/-! ### one clause -/
def compL (fg : ME) (ft : MB) (fe : MD) : List D → Env → Sto → R (List D)
  | [], _, S => .ok [] S
  | d :: r, ρ, S => (fg d ρ S).bind fun ρ1 S1 => (ft ρ1 S1).bind fun b S2 => if b = true then (fe ρ1 S2).bind fun y S3 => (compL fg ft fe r ρ S3).bind fun ys S4 => .ok (y :: ys) S4 else compL fg ft fe r ρ S2
def compM (vs : List Nat) (fi : ML) (fg : ME) (ft : MB) (fe : MD) : MD := fun ρ S => (fi ρ S).bind fun ds S1 => (compL fg ft fe ds (wipeE ρ vs) S1).bind fun ys S2 => .ok (.lst ys) S2
theorem Reps.appD {B : Bs} {L : List Addr} {H : Hp} : True := trivial
theorem tab_of_ext {B : Bs} {H : Hp} (h : TabsN B.tabs H) : TabsN B.tabs H := h
/-- the world while the list at D is made -/
structure InComp (B : Bs) (O : List Addr) (L1 : List Addr) (H1 : Hp) (p : Addr) (σ : L2.St) (ρ : Env) (L : List Addr) (H : Hp) (S : Sto) (acc : List V) (ys : List D) : Prop where
  st : StOk B (p :: O) σ H ρ S L
  pre : L1 <+: L
  sta : Sta (hid (O ++ L1) H1) (hid (p :: O ++ L) H)
  obs : ∀ a ∈ O, H a = H1 a
  at_ : H p = some (.lst acc)
  np : p ∉ O
  rep : Reps B L (hid (p :: O ++ L) H) acc ys
section
variable {B : Bs} {O L1 L L' : List Addr} {H1 H H' : Hp} {p : Addr} {σ : L2.St} {ρ : Env} {S S' : Sto} {acc : List V} {ys : List D} {y : V} {d : D}
theorem InComp.ext (c : InComp B O L1 H1 p σ ρ L H S acc ys) (e : Ext (p :: O) L H L' H') (o : StoOk B (p :: O) L' H' S') (t : TabsN B.tabs H') : InComp B O L1 H1 p σ ρ L' H' S' acc ys :=
  ⟨c.st.ext e o t, c.pre.trans e.pre, c.sta.trans e.sta, fun a ha => (e.obs a (List.mem_cons_of_mem _ ha)).trans (c.obs a ha), (e.obs p List.mem_cons_self).trans c.at_, c.np, c.rep.ext e⟩
theorem InComp.push (c : InComp B O L1 H1 p σ ρ L H S acc ys) (r : Rep B L (hid (p :: O ++ L) H) y d) : InComp B O L1 H1 p σ ρ L (upd H p (.lst (acc ++ [y]))) S (acc ++ [y]) (ys ++ [d]) := by
  have hin : p ∈ p :: O ++ L := List.mem_append_left _ List.mem_cons_self
  refine ⟨⟨fun i d h => ?_, c.st.len, c.st.sto.upd, tabs_updL c.st.tab c.at_⟩, c.pre, by rw [hid_in hin]; exact c.sta, fun a ha => ?_, upd_same, c.np, by rw [hid_in hin]; exact c.rep.snoc r⟩
  · rw [hid_in hin]
    exact c.st.env i d h
  · rw [upd_ne fun z => c.np (by rw [← z]; exact ha)]
    exact c.obs a ha
theorem InComp.start {Q : VK} {ρ0 : Env} {H0 : Hp} {L0 : List Addr} {σ0 : L2.St} {S0 : Sto} (st : StOk B O σ0 H0 ρ0 S0 L0) (e : Ext O L0 H0 L1 H1) (o : StoOk B O L1 H1 S) (t : TabsN B.tabs H1) (vs : List Nat) (hp : H1 p = none) : InComp B O L1 H1 p (wipe σ0 vs) (wipeE ρ0 vs) L1 (upd H1 p (.lst [])) S [] [] := by
  have w := (st.ext e o t).wipe vs
  have f := o.fresh hp
  refine ⟨⟨fun i d h => ?_, w.len, o.start hp, TabsN.new t hp⟩, List.prefix_refl _, hid_start hp, fun a ha => upd_ne fun z => f (List.mem_append_left _ (by rw [← z]; exact ha)), upd_same, fun z => f (List.mem_append_left _ z), .nil⟩
  obtain ⟨v, h1, h2⟩ := w.env i d h
  exact ⟨v, h1, Rep.mono (List.prefix_refl _) (hid_start hp) d v h2⟩
/-- the list is made: what is wanted of it -/
theorem InComp.done {Q : VK} {H0 : Hp} {L0 : List Addr} (c : InComp B O L1 H1 p σ ρ L H S acc ys) (e : Ext O L0 H0 L1 H1) (q : Post B O L0 H0 Q (.lst ys) S) : Q (.ref p) H := by
  have hin : p ∈ p :: O ++ L := List.mem_append_left _ List.mem_cons_self
  have npl : p ∉ O ++ L := fun z => by
    rcases List.mem_append.mp z with z | z
    · exact c.np z
    · exact (c.st.sto.obs p List.mem_cons_self).2 z
  refine q _ H L ⟨e.pre.trans c.pre, (e.sta.trans c.sta).trans hid_more, fun a ha => (c.obs a ha).trans (e.obs a ha)⟩ (.lst (.inl (hid_of npl c.at_)) ?_) c.st.sto.stop c.st.tab
  exact Reps.mono (List.prefix_refl _) hid_more _ _ c.rep
/-- the next item -/
theorem InComp.item {ds : List D} {J : It} {i : Nat} {x : V} {H3 : Hp} (c : InComp B O L1 H1 p σ ρ L H S acc ys) (w : WalkD B (hid (O ++ L1) H1) L1 ds J) (hi : i < ds.length) (y : J.yld i H x H3) : ∃ d, ds[i]? = some d ∧ InComp B O L1 H1 p σ ρ L H3 S acc ys ∧ Rep B L (hid (p :: O ++ L) H3) x d := by
  obtain ⟨d, hd, q⟩ := w.yld i H x H3 hi (c.sta.trans (hid_sta _ _)) y
  refine ⟨d, hd, ?_⟩
  rcases q with ⟨rfl, r⟩ | ⟨T, vs, es, rfl, rfl, hT, rfl, r⟩
  · exact ⟨c, Rep.mono c.pre c.sta d x r⟩
  · have f := c.st.sto.fresh hT
    refine ⟨c.ext (Ext.new f hT) (c.st.sto.new hT) (TabsN.new c.st.tab hT), .tup (.inl (.inl (hid_of f upd_same))) ?_⟩
    exact (Reps.mono c.pre c.sta es vs r).ext (Ext.new f hT)
theorem w_lc {vs : List Nat} {fi : ML} {fg : ME} {ft : MB} {fe : MD} {σ : L2.St} {H : Hp} {Q : VK} (h : tD B (compM vs fi fg ft fe) σ H Q) : tLc (tI B fi) (tGc B vs fg) (tT B ft) (tD B fe) vs σ H Q := by
  obtain ⟨ρ, S, O, L, st, h⟩ := h
  unfold compM at h
  rw [R.sat_bind] at h
  refine ⟨ρ, S, O, L, st, R.sat_mono h fun ds S1 hp J H1 L1 e1 o1 t1 wd => ?_⟩
  rw [R.sat_bind] at hp
  intro p hp0
  refine ⟨fun i m Hc => m = ds.length - i ∧ i ≤ ds.length ∧ ∃ L2 S2 acc ys, InComp B O L1 H1 p (wipe σ vs) (wipeE ρ vs) L2 Hc S2 acc ys ∧ ys.length ≤ i ∧
    (compL fg ft fe (ds.drop i) (wipeE ρ vs) S2).sat fun zs S3 => Post B O L H Q (.lst (ys ++ zs)) S3, ⟨ds.length, by simp, Nat.zero_le _, L1, S1, [], [], InComp.start (Q := Q) st e1 o1 t1 vs hp0, Nat.le_refl _, hp⟩, ?_⟩
  rintro i m Hc ⟨rfl, hi, L2, S2, acc, ys, c, hy, hs⟩
  by_cases hlt : i < ds.length
  · refine .inr ⟨wd.go i Hc hlt (c.sta.trans (hid_sta _ _)), fun H' => ∃ L2 S2 acc ys, InComp B O L1 H1 p (wipe σ vs) (wipeE ρ vs) L2 H' S2 acc ys ∧ ys.length ≤ i + 1 ∧ (compL fg ft fe (ds.drop (i + 1)) (wipeE ρ vs) S2).sat fun zs S3 => Post B O L H Q (.lst (ys ++ zs)) S3, fun H' q => ⟨ds.length - (i + 1), by omega, rfl, hlt, q⟩, fun x H3 y => ?_⟩
    obtain ⟨d, hd, c3, r3⟩ := c.item wd hlt y
    have ed : ds.drop i = d :: ds.drop (i + 1) := by
      rw [List.drop_eq_getElem_cons hlt]
      congr 1
      exact Option.some.inj ((List.getElem?_eq_getElem hlt).symm.trans hd)
    rw [ed] at hs
    unfold compL at hs
    rw [R.sat_bind] at hs
    refine ⟨wipeE ρ vs, S2, p :: O, L2, d, c3.st, r3, R.sat_mono hs fun ρ1 S4 hs σ4 H4 L4 e4 st4 w4 => ⟨w4.trans (wipe_wipe σ vs), ?_⟩⟩
    rw [R.sat_bind] at hs
    have c4 := c3.ext e4 st4.sto st4.tab
    refine ⟨ρ1, S4, p :: O, L4, st4, R.sat_mono hs fun b S5 hs H5 L5 e5 o5 t5 => ?_⟩
    have c5 := c4.ext e5 o5 t5
    cases b with
    | false =>
      simp only [Bool.false_eq_true, if_false] at hs ⊢
      exact ⟨L5, S5, acc, ys, c5, by omega, hs⟩
    | true =>
      simp only [if_true] at hs ⊢
      rw [R.sat_bind] at hs
      refine ⟨ρ1, S5, p :: O, L5, st4.ext e5 o5 t5, R.sat_mono hs fun z S6 hs v H6 L6 e6 r6 o6 t6 => ?_⟩
      have c6 := c5.ext e6 o6 t6
      rw [R.sat_bind] at hs
      have hl := c6.rep.length
      have hz := wd.len
      refine ⟨acc, c6.at_, by omega, L6, S6, acc ++ [v], ys ++ [z], c6.push r6, by rw [List.length_append]; show ys.length + 1 ≤ i + 1; omega, R.sat_mono hs fun zs S7 q => ?_⟩
      rw [List.append_assoc]
      exact q
  · have e : i = ds.length := by omega
    subst e
    rw [List.drop_length] at hs
    unfold compL at hs
    refine .inl ⟨wd.stop Hc (c.sta.trans (hid_sta _ _)), c.done e1 ?_⟩
    have hs : Post B O L H Q (.lst (ys ++ [])) S2 := hs
    rw [List.append_nil] at hs
    exact hs
end
/-- [elt for target in iter if ..] -/
theorem de_comp {X : Cx} {B : Bs} {elt tg iter : Expr} {ifs : List Expr} {scope : Scope} {own : List (Str × Nat)} {pos : Pos} {fi : ML} {fg : ME} {ft : MB} {fe : MD} (hc : X.calm = true) (hN : X.N.Nodup) (hi : PI X tg iter (tI B fi)) (ok : BlkOk X.N X.env.scope scope own)
    (hg : ∀ (s : Shared) (H : Hp) (C : Addr) (cl : List (Str × Addr)) (fp : List Addr), PG (X.blk s H scope (compEnvC scope cl C X.env) fp) tg (tGc B (own.map (·.2)) fg))
    (ht : ∀ (s : Shared) (H : Hp) (C : Addr) (cl : List (Str × Addr)) (fp : List Addr), PTs (X.blk s H scope (compEnvC scope cl C X.env) fp) ifs (tT B ft))
    (he : ∀ (s : Shared) (H : Hp) (C : Addr) (cl : List (Str × Addr)) (fp : List Addr), PE (X.blk s H scope (compEnvC scope cl C X.env) fp) elt (tD B fe)) (hs : ∀ x, foldedSetIterable iter X.env x = pure x) :
    PE X (.ListComp elt [⟨tg, iter, ifs, 0⟩] scope pos) (tD B (compM (own.map (·.2)) fi fg ft fe)) :=
  peW (pe_lc hc hN hi ok hg ht he hs) fun _ _ _ h => w_lc h
end PD


set_option Elab.async false
set_option linter.all false
set_option maxRecDepth 100000
set_option maxHeartbeats 4000000
/-! PD7: statements. -/
namespace PD
open PySem PySem.Spec PyProof.Rows L2 LamX NdefX

inductive Flw where
  | nx (ρ : Env) | rt (d : D) | bk (ρ : Env) | ct (ρ : Env)
abbrev MS := Env → Sto → R Flw
def PostS (B : Bs) (O L : List Addr) (H : Hp) (E : Ends) : Flw → Sto → Prop := fun fl S' => match fl with
  | .nx ρ' => ∀ σ' H' L', Ext O L H L' H' → StOk B O σ' H' ρ' S' L' → E.nx σ' H'
  | .rt d => ∀ v H' L', Ext O L H L' H' → Rep B L' (hid (O ++ L') H') v d → StoOk B O L' H' S' → TabsN B.tabs H' → E.rt v H'
  | .bk ρ' => ∀ σ' H' L', Ext O L H L' H' → StOk B O σ' H' ρ' S' L' → E.bk σ' H'
  | .ct ρ' => ∀ σ' H' L', Ext O L H L' H' → StOk B O σ' H' ρ' S' L' → E.ct σ' H'
def tS (B : Bs) (f : MS) : TS := fun E σ H => ∃ ρ S O L, StOk B O σ H ρ S L ∧ (f ρ S).sat (PostS B O L H E)
theorem PostS.ext {B : Bs} {O L L1 : List Addr} {H H1 : Hp} {E : Ends} {fl : Flw} {S : Sto} (p : PostS B O L H E fl S) (e : Ext O L H L1 H1) : PostS B O L1 H1 E fl S := by
  cases fl with
  | nx ρ => exact fun σ' H' L' e' => p σ' H' L' (e.trans e')
  | rt d => exact fun v H' L' e' => p v H' L' (e.trans e')
  | bk ρ => exact fun σ' H' L' e' => p σ' H' L' (e.trans e')
  | ct ρ => exact fun σ' H' L' e' => p σ' H' L' (e.trans e')
section
variable {X : Cx} {B : Bs} {st : Stmt} {sts : List Stmt} {f g : MS} {pos : Pos} {e : Expr} {fe : MD}
theorem psW {t t' : TS} (h : PS X st t) (w : ∀ E σ H, t' E σ H → t E σ H) : PS X st t' := ⟨fun pins s σ H E I q => h.run pins s σ H E I (w E σ H q)⟩
theorem pssW {t t' : TS} (h : PSs X sts t) (w : ∀ E σ H, t' E σ H → t E σ H) : PSs X sts t' := ⟨fun pins s σ H E I q => h.run pins s σ H E I (w E σ H q)⟩
def nextS : MS := fun ρ S => .ok (.nx ρ) S
def seqS (f g : MS) : MS := fun ρ S => (f ρ S).bind fun fl S1 => match fl with
  | .nx ρ1 => g ρ1 S1
  | fl => .ok fl S1
theorem ds_nilS : PSs X [] (tS B nextS) := pssW pss_nil fun E σ H ⟨ρ, S, O, L, st, h⟩ => h σ H L (Ext.refl L H) st
theorem ds_cons (h1 : PS X st (tS B f)) (h2 : PSs X sts (tS B g)) : PSs X (st :: sts) (tS B (seqS f g)) :=
  pssW (pss_cons h1 h2) fun E σ H ⟨ρ, S, O, L, st, h⟩ => by
    unfold seqS at h
    rw [R.sat_bind] at h
    refine ⟨ρ, S, O, L, st, R.sat_mono h fun fl S1 p => ?_⟩
    cases fl with
    | nx ρ1 => exact fun σ1 H1 L1 e1 st1 => ⟨ρ1, S1, O, L1, st1, R.sat_mono p fun _ _ z => z.ext e1⟩
    | rt d => exact p
    | bk ρ1 => exact p
    | ct ρ1 => exact p
theorem ds_pass : PS X (.Pass pos) (tS B nextS) := psW ps_pass fun E σ H ⟨ρ, S, O, L, st, h⟩ => h σ H L (Ext.refl L H) st
def brkS : MS := fun ρ S => .ok (.bk ρ) S
def cntS : MS := fun ρ S => .ok (.ct ρ) S
theorem ds_break : PS X (.Break pos) (tS B brkS) := psW ps_break fun E σ H ⟨ρ, S, O, L, st, h⟩ => h σ H L (Ext.refl L H) st
theorem ds_cont : PS X (.Continue pos) (tS B cntS) := psW ps_continue fun E σ H ⟨ρ, S, O, L, st, h⟩ => h σ H L (Ext.refl L H) st
/-- a statement that the run never comes to -/
def badS : MS := fun _ _ => .bad
theorem ds_bad : PS X st (tS B badS) := psW ps_never fun E σ H ⟨ρ, S, O, L, st, h⟩ => h
def exprS (fe : MD) : MS := fun ρ S => (fe ρ S).bind fun _ S1 => .ok (.nx ρ) S1
theorem ds_expr (he : PE X e (tD B fe)) (hs : swapsWith e none pos.line X.env = pure false) : PS X (.Expr e pos) (tS B (exprS fe)) :=
  psW (ps_expr he hs) fun E σ H ⟨ρ, S, O, L, st, h⟩ => by
    unfold exprS at h
    rw [R.sat_bind] at h
    exact ⟨ρ, S, O, L, st, R.sat_mono h fun d S1 p v H1 L1 e1 r1 o1 t1 => p σ H1 L1 e1 (st.ext e1 o1 t1)⟩
def retS (fe : MD) : MS := fun ρ S => (fe ρ S).bind fun d S1 => .ok (.rt d) S1
theorem ds_ret (he : PE X e (tD B fe)) : PS X (.Return (some e) pos) (tS B (retS fe)) :=
  psW (ps_ret he) fun E σ H ⟨ρ, S, O, L, st, h⟩ => by
    unfold retS at h
    rw [R.sat_bind] at h
    exact ⟨ρ, S, O, L, st, R.sat_mono h fun d S1 p v H1 L1 e1 r1 o1 t1 => p v H1 L1 e1 r1 o1 t1⟩
def retNS : MS := fun _ S => .ok (.rt .non) S
theorem ds_retN : PS X (.Return none pos) (tS B retNS) := psW ps_retN fun E σ H ⟨ρ, S, O, L, st, h⟩ => h _ H L (Ext.refl L H) .non st.sto st.tab
def ifS (fc : MD) (f g : MS) : MS := fun ρ S => (truM fc ρ S).bind fun k S1 => if k = true then f ρ S1 else g ρ S1
theorem ds_if {c : Expr} {a b : List Stmt} {fc : MD} (hc : PT X c (tT B (truM fc))) (ha : PSs X a (tS B f)) (hb : PSs X b (tS B g)) : PS X (.If c a b pos) (tS B (ifS fc f g)) :=
  psW (ps_if hc ha hb) fun E σ H ⟨ρ, S, O, L, st, h⟩ => by
    unfold ifS at h
    rw [R.sat_bind] at h
    refine ⟨ρ, S, O, L, st, R.sat_mono h fun k S1 p H1 L1 e1 o1 t1 => ?_⟩
    cases k with
    | true => exact ⟨ρ, S1, O, L1, st.ext e1 o1 t1, R.sat_mono p fun _ _ z => z.ext e1⟩
    | false => exact ⟨ρ, S1, O, L1, st.ext e1 o1 t1, R.sat_mono p fun _ _ z => z.ext e1⟩

/-! ### loops -/
def forL (fg : ME) (fb : MS) : List D → Env → Sto → R Flw
  | [], ρ, S => .ok (.nx ρ) S
  | d :: r, ρ, S => (fg d ρ S).bind fun ρ1 S1 => (fb ρ1 S1).bind fun fl S2 => match fl with
    | .nx ρ2 => forL fg fb r ρ2 S2
    | .ct ρ2 => forL fg fb r ρ2 S2
    | .bk ρ2 => .ok (.nx ρ2) S2
    | .rt d => .ok (.rt d) S2
def forS (fi : ML) (fg : ME) (fb : MS) : MS := fun ρ S => (fi ρ S).bind fun ds S1 => forL fg fb ds ρ S1
theorem w_for {fi : ML} {fg : ME} {fb : MS} {E : Ends} {σ : L2.St} {H : Hp} (h : tS B (forS fi fg fb) E σ H) : tFor (tI B fi) (tG B fg) (tS B fb) E σ H := by
  obtain ⟨ρ, S, O, L, st, h⟩ := h
  unfold forS at h
  rw [R.sat_bind] at h
  refine ⟨ρ, S, O, L, st, R.sat_mono h fun ds S1 hp J H1 L1 e1 o1 t1 wd => ?_⟩
  refine ⟨fun i m σ2 Hc => m = ds.length - i ∧ i ≤ ds.length ∧ ∃ ρ2 S2 L2, StOk B O σ2 Hc ρ2 S2 L2 ∧ Ext O L1 H1 L2 Hc ∧ (forL fg fb (ds.drop i) ρ2 S2).sat (PostS B O L H E), ⟨ds.length, by simp, Nat.zero_le _, ρ, S1, L1, st.ext e1 o1 t1, Ext.refl _ _, hp⟩, ?_⟩
  rintro i m σ2 Hc ⟨rfl, hi, ρ2, S2, L2, st2, e2, hs⟩
  have sM : Sta (hid (O ++ L1) H1) Hc := e2.sta.trans (hid_sta _ _)
  by_cases hlt : i < ds.length
  · refine .inr ⟨wd.go i Hc hlt sM, fun σ' H' => ∃ ρ2 S2 L2, StOk B O σ' H' ρ2 S2 L2 ∧ Ext O L1 H1 L2 H' ∧ (forL fg fb (ds.drop (i + 1)) ρ2 S2).sat (PostS B O L H E), fun σ' H' q => ⟨ds.length - (i + 1), by omega, rfl, hlt, q⟩, fun x H3 y => ?_⟩
    obtain ⟨d, hd, q⟩ := wd.yld i Hc x H3 hlt sM y
    have ed : ds.drop i = d :: ds.drop (i + 1) := by
      rw [List.drop_eq_getElem_cons hlt]
      congr 1
      exact Option.some.inj ((List.getElem?_eq_getElem hlt).symm.trans hd)
    rw [ed] at hs
    unfold forL at hs
    rw [R.sat_bind] at hs
    obtain ⟨e3, st3, r3⟩ : Ext O L2 Hc L2 H3 ∧ StOk B O σ2 H3 ρ2 S2 L2 ∧ Rep B L2 (hid (O ++ L2) H3) x d := by
      rcases q with ⟨rfl, r⟩ | ⟨T, vs, es, rfl, rfl, hT, rfl, r⟩
      · exact ⟨Ext.refl _ _, st2, r.ext e2⟩
      · have f := st2.sto.fresh hT
        have en := Ext.new (o := HO.tup vs) f hT
        exact ⟨en, st2.ext en (st2.sto.new hT) (TabsN.new st2.tab hT), .tup (.inl (.inl (hid_of f upd_same))) ((r.ext e2).ext en)⟩
    refine ⟨ρ2, S2, O, L2, d, st3, r3, R.sat_mono hs fun ρ4 S4 hs σ4 H4 L4 e4 st4 => ?_⟩
    rw [R.sat_bind] at hs
    refine ⟨ρ4, S4, O, L4, st4, R.sat_mono hs fun fl S5 hs => ?_⟩
    have e4' := (e2.trans e3).trans e4
    cases fl with
    | nx ρ5 => exact fun σ5 H5 L5 e5 st5 => ⟨ρ5, S5, L5, st5, e4'.trans e5, hs⟩
    | ct ρ5 => exact fun σ5 H5 L5 e5 st5 => ⟨ρ5, S5, L5, st5, e4'.trans e5, hs⟩
    | bk ρ5 => exact fun σ5 H5 L5 e5 st5 => hs σ5 H5 L5 ((e1.trans e4').trans e5) st5
    | rt d => exact fun v H5 L5 e5 => hs v H5 L5 ((e1.trans e4').trans e5)
  · have e : i = ds.length := by omega
    subst e
    rw [List.drop_length] at hs
    have hs : PostS B O L H E (.nx ρ2) S2 := hs
    exact .inl ⟨wd.stop Hc sM, hs σ2 Hc L2 (e1.trans e2) st2⟩
theorem ds_for {tg iter : Expr} {body : List Stmt} {fi : ML} {fg : ME} {fb : MS} (hx : PassesOwn (model X.prog X.w) X.A X.env X.xe) (hc : X.calm = true) (hi : PI X tg iter (tI B fi)) (hg : PG X tg (tG B fg)) (hb : PSs X body (tS B fb)) (hs : ∀ x, foldedSetIterable iter X.env x = pure x) :
    PS X (.For tg iter body [] pos) (tS B (forS fi fg fb)) := psW (ps_for hx hc hi hg hb hs) fun _ _ _ h => w_for h
def whileL (fc : MD) (fb : MS) : Nat → Env → Sto → R Flw
  | 0, _, _ => .bad
  | n + 1, ρ, S => (truM fc ρ S).bind fun k S1 => if k = true then (fb ρ S1).bind fun fl S2 => match fl with
    | .nx ρ2 => whileL fc fb n ρ2 S2
    | .ct ρ2 => whileL fc fb n ρ2 S2
    | .bk ρ2 => .ok (.nx ρ2) S2
    | .rt d => .ok (.rt d) S2
    else .ok (.nx ρ) S1
theorem w_while {fc : MD} {fb : MS} {n : Nat} {E : Ends} {σ : L2.St} {H : Hp} (h : tS B (fun ρ S => whileL fc fb n ρ S) E σ H) : tWhile (tT B (truM fc)) (tS B fb) E σ H := by
  obtain ⟨ρ, S, O, L, st, h⟩ := h
  refine ⟨fun m σ2 Hc => ∃ ρ2 S2 L2, StOk B O σ2 Hc ρ2 S2 L2 ∧ Ext O L H L2 Hc ∧ (whileL fc fb m ρ2 S2).sat (PostS B O L H E), ⟨n, ρ, S, L, st, Ext.refl _ _, h⟩, ?_⟩
  rintro m σ2 Hc ⟨ρ2, S2, L2, st2, e2, hs⟩
  cases m with
  | zero => exact hs.elim
  | succ m =>
    unfold whileL at hs
    rw [R.sat_bind] at hs
    refine ⟨ρ2, S2, O, L2, st2, R.sat_mono hs fun k S3 hs H3 L3 e3 o3 t3 => ?_⟩
    have st3 := st2.ext e3 o3 t3
    have e3' := e2.trans e3
    cases k with
    | false =>
      simp only [Bool.false_eq_true, if_false] at hs ⊢
      have hs : PostS B O L H E (.nx ρ2) S3 := hs
      exact hs σ2 H3 L3 e3' st3
    | true =>
      simp only [if_true] at hs ⊢
      rw [R.sat_bind] at hs
      refine ⟨fun σ' H' => ∃ ρ2 S2 L2, StOk B O σ' H' ρ2 S2 L2 ∧ Ext O L H L2 H' ∧ (whileL fc fb m ρ2 S2).sat (PostS B O L H E), fun σ' H' q => ⟨m, Nat.lt_succ_self m, q⟩, ρ2, S3, O, L3, st3, R.sat_mono hs fun fl S5 hs => ?_⟩
      cases fl with
      | nx ρ5 => exact fun σ5 H5 L5 e5 st5 => ⟨ρ5, S5, L5, st5, e3'.trans e5, hs⟩
      | ct ρ5 => exact fun σ5 H5 L5 e5 st5 => ⟨ρ5, S5, L5, st5, e3'.trans e5, hs⟩
      | bk ρ5 => exact fun σ5 H5 L5 e5 st5 => hs σ5 H5 L5 (e3'.trans e5) st5
      | rt d => exact fun v H5 L5 e5 => hs v H5 L5 (e3'.trans e5)
theorem ds_while {c : Expr} {body : List Stmt} {fc : MD} {fb : MS} (n : Nat) (hx : PassesOwn (model X.prog X.w) X.A X.env X.xe) (hc : PT X c (tT B (truM fc))) (hb : PSs X body (tS B fb)) : PS X (.While c body [] pos) (tS B (fun ρ S => whileL fc fb n ρ S)) :=
  psW (ps_while hx hc hb) fun _ _ _ h => w_while h

/-! ### assignments -/
def asgS (fe : MD) (fg : ME) : MS := fun ρ S => (fe ρ S).bind fun d S1 => (fg d ρ S1).bind fun ρ1 S2 => .ok (.nx ρ1) S2
theorem w_asg {fg : ME} {E : Ends} {σ : L2.St} {H : Hp} (h : tS B (asgS fe fg) E σ H) : tAsg (tD B fe) (tG B fg) E σ H := by
  obtain ⟨ρ, S, O, L, st, h⟩ := h
  unfold asgS at h
  rw [R.sat_bind] at h
  refine ⟨ρ, S, O, L, st, R.sat_mono h fun d S1 p v H1 L1 e1 r1 o1 t1 => ?_⟩
  rw [R.sat_bind] at p
  exact ⟨ρ, S1, O, L1, d, st.ext e1 o1 t1, r1, R.sat_mono p fun ρ1 S2 p σ2 H2 L2 e2 st2 => p σ2 H2 L2 (e1.trans e2) st2⟩
theorem ds_asg {tg : Expr} {fg : ME} (he : PE X e (tD B fe)) (hg : PG X tg (tG B fg)) (hs : swapsWithSole [tg] e pos.line X.env = pure false) (hw : swappedStores [tg] e X.env = pure none) (hst : isStar tg = false) : PS X (.Assign [tg] e pos) (tS B (asgS fe fg)) :=
  psW (ps_asg he hg hs hw (by rw [assign_cons hst] <;> rfl)) fun _ _ _ h => w_asg h
/-- name = [..] on one line -/
theorem w_set {i : Nat} {E : Ends} {σ : L2.St} {H : Hp} (h : tS B (asgS fe (setE i)) E σ H) : tD B fe σ H (fun x H1 => gName i x σ H1 E.nx) := by
  obtain ⟨ρ, S, O, L, st, h⟩ := h
  unfold asgS at h
  rw [R.sat_bind] at h
  refine ⟨ρ, S, O, L, st, R.sat_mono h fun d S1 p v H1 L1 e1 r1 o1 t1 => ?_⟩
  rw [R.sat_bind] at p
  obtain ⟨hl, p⟩ := sat_guard.mp p
  exact p _ H1 L1 e1 ((st.ext e1 o1 t1).set r1 (of_decide_eq_true hl))
theorem ds_setLc {i : Nat} {y : Str} {py spos : Pos} {elt tg iter : Expr} {ifs : List Expr} {scope : Scope} {own : List (Str × Nat)} {fi : ML} {fg : ME} {ft : MB} (hc : X.calm = true) (hN : X.N.Nodup) (hy : X.N[i]? = some y) (hyl : X.env.scope.names.lookup y = some .local)
    (hsw : swapsWith (.ListComp elt [⟨tg, iter, ifs, 0⟩] scope pos) (some (.Name y py)) spos.line X.env = pure true) (hi : PI X tg iter (tI B fi)) (ok : BlkOk X.N X.env.scope scope own)
    (hg : ∀ (s : Shared) (H : Hp) (C : Addr) (cl : List (Str × Addr)) (fp : List Addr), PG (X.blk s H scope (compEnvC scope cl C X.env) fp) tg (tGc B (own.map (·.2)) fg))
    (ht : ∀ (s : Shared) (H : Hp) (C : Addr) (cl : List (Str × Addr)) (fp : List Addr), PTs (X.blk s H scope (compEnvC scope cl C X.env) fp) ifs (tT B ft))
    (he : ∀ (s : Shared) (H : Hp) (C : Addr) (cl : List (Str × Addr)) (fp : List Addr), PE (X.blk s H scope (compEnvC scope cl C X.env) fp) elt (tD B fe)) (hs : ∀ x, foldedSetIterable iter X.env x = pure x) :
    PS X (.Assign [.Name y py] (.ListComp elt [⟨tg, iter, ifs, 0⟩] scope pos) spos) (tS B (asgS (compM (own.map (·.2)) fi fg ft fe) (setE i))) :=
  psW (ps_setLc hc hN hy hyl hsw hi ok hg ht he hs) fun _ _ _ h => w_lc (w_set h)
/-- a, b = x, y (and three): stored by their names -/
def setAll : List Nat → List D → Env → Sto → R Env
  | [], [], ρ, S => .ok ρ S
  | i :: is, d :: ds, ρ, S => guardR (decide (i < ρ.length)) (setAll is ds (ρ.set i (some d)) S)
  | _, _, _, _ => .bad
def parS (is : List Nat) (fr : ML) : MS := fun ρ S => (fr ρ S).bind fun ds S1 => (setAll is ds ρ S1).bind fun ρ1 S2 => .ok (.nx ρ1) S2
theorem w_par2 {i j : Nat} {fr : ML} {E : Ends} {σ : L2.St} {H : Hp} (h : tS B (parS [i, j] fr) E σ H) : tPar i j (tA B fr) E σ H := by
  obtain ⟨ρ, S, O, L, st, h⟩ := h
  unfold parS at h
  rw [R.sat_bind] at h
  refine ⟨ρ, S, O, L, st, R.sat_mono h fun ds S1 p vs H1 L1 e1 r1 o1 t1 => ?_⟩
  have st1 := st.ext e1 o1 t1
  match ds, r1, p with
  | [], _, p => exact p.elim
  | [_], _, p =>
    have p : ((guardR (decide (i < ρ.length)) (.bad : R Env)).bind fun ρ1 S2 => .ok (.nx ρ1) S2).sat (PostS B O L H E) := p
    rw [R.sat_bind] at p
    exact (sat_guard.mp p).2.elim
  | [d1, d2], r1, p =>
    obtain ⟨v, w, rfl, ra, rb⟩ := reps2 r1
    rw [R.sat_bind] at p
    obtain ⟨h1, p⟩ := sat_guard.mp p
    obtain ⟨h2, p⟩ := sat_guard.mp p
    exact ⟨v, w, rfl, p _ H1 L1 e1 ((st1.set ra (of_decide_eq_true h1)).set rb (of_decide_eq_true h2))⟩
  | _ :: _ :: _ :: _, _, p =>
    rw [R.sat_bind] at p
    obtain ⟨h1, p⟩ := sat_guard.mp p
    obtain ⟨h2, p⟩ := sat_guard.mp p
    exact p.elim
theorem w_par3 {i j k : Nat} {fr : ML} {E : Ends} {σ : L2.St} {H : Hp} (h : tS B (parS [i, j, k] fr) E σ H) : tPar3 i j k (tA B fr) E σ H := by
  obtain ⟨ρ, S, O, L, st, h⟩ := h
  unfold parS at h
  rw [R.sat_bind] at h
  refine ⟨ρ, S, O, L, st, R.sat_mono h fun ds S1 p vs H1 L1 e1 r1 o1 t1 => ?_⟩
  have st1 := st.ext e1 o1 t1
  rw [R.sat_bind] at p
  match ds, r1, p with
  | [], _, p => exact p.elim
  | [_], _, p => exact (sat_guard.mp p).2.elim
  | [_, _], _, p => exact (sat_guard.mp (sat_guard.mp p).2).2.elim
  | [d1, d2, d3], .cons ra (.cons rb (.cons rc .nil)), p =>
    obtain ⟨h1, p⟩ := sat_guard.mp p
    obtain ⟨h2, p⟩ := sat_guard.mp p
    obtain ⟨h3, p⟩ := sat_guard.mp p
    exact ⟨_, _, _, rfl, p _ H1 L1 e1 (((st1.set ra (of_decide_eq_true h1)).set rb (of_decide_eq_true h2)).set rc (of_decide_eq_true h3))⟩
  | _ :: _ :: _ :: _ :: _, _, p => exact (sat_guard.mp (sat_guard.mp (sat_guard.mp p).2).2).2.elim
end

/-! ### a place changes -/
theorem nodup_at {α : Type} : ∀ {l : List α} {i j : Nat} {x : α}, l.Nodup → l[i]? = some x → l[j]? = some x → i = j
  | [], _, _, _, _, h, _ => by simp at h
  | a :: l, 0, 0, _, _, _, _ => rfl
  | a :: l, 0, j + 1, x, nd, h1, h2 => by
    have h1 : a = x := by simpa using h1
    subst h1
    exact absurd (List.mem_of_getElem? (by simpa using h2)) (List.nodup_cons.mp nd).1
  | a :: l, i + 1, 0, x, nd, h1, h2 => by
    have h2 : a = x := by simpa using h2
    subst h2
    exact absurd (List.mem_of_getElem? (by simpa using h1)) (List.nodup_cons.mp nd).1
  | a :: l, i + 1, j + 1, x, nd, h1, h2 => congrArg (· + 1) (nodup_at (List.nodup_cons.mp nd).2 (by simpa using h1) (by simpa using h2))
theorem StOk.put {B : Bs} {O L : List Addr} {σ : L2.St} {H : Hp} {ρ : Env} {S : Sto} {n : Nat} {a : Addr} {u : HO} {m : MO} (s : StOk B O σ H ρ S L) (ha : L[n]? = some a) (hm : MRep B O L (upd H a u) a m) (hu : ∀ q ∈ B.tabs, q.1 ≠ a) (hc : ∀ b q, H b = some (CodeO b q) → b ≠ a) :
    Ext O L H L (upd H a u) ∧ StOk B O σ (upd H a u) ρ (S.set n m) L := by
  have hin : a ∈ O ++ L := List.mem_append_right _ (List.mem_of_getElem? ha)
  have naO : a ∉ O := fun z => (s.sto.obs a z).2 (List.mem_of_getElem? ha)
  have hn : n < S.length := by rw [← s.sto.len]; exact (List.getElem?_eq_some_iff.mp ha).1
  have e : Ext O L H L (upd H a u) := ⟨List.prefix_refl _, by rw [hid_in hin]; exact ExtN.refl _, fun b hb => upd_ne fun z => naO (by rw [← z]; exact hb)⟩
  refine ⟨e, ⟨fun i d h => ?_, s.len, ⟨by rw [List.length_set]; exact s.sto.len, s.sto.nd, fun k o hk => ?_, fun b hb => ?_⟩, tabs_upd s.tab hu hc⟩⟩
  · rw [hid_in hin]
    exact s.env i d h
  · by_cases q : n = k
    · subst q
      rw [List.getElem?_set_self hn] at hk
      cases hk
      exact ⟨a, ha, hm⟩
    · rw [List.getElem?_set_ne q] at hk
      obtain ⟨b, h1, h2⟩ := s.sto.at_ k o hk
      have hb : b ≠ a := fun z => by
        subst z
        exact q (nodup_at s.sto.nd ha h1)
      exact ⟨b, h1, h2.ext e (upd_ne hb)⟩
  · obtain ⟨h1, h2⟩ := s.sto.obs b hb
    exact ⟨by rw [upd_ne fun z => naO (by rw [← z]; exact hb)]; exact h1, h2⟩
end PD


set_option Elab.async false
set_option linter.all false
set_option maxRecDepth 100000
set_option maxHeartbeats 4000000
/-! PD8: calls of the text's own defs; lists that change. -/
namespace PD
open PySem PySem.Spec PyProof.Rows L2 LamX NdefX

/-! ### how arguments bind -/
theorem look_app {ps : List (Str × Value)} {x : Str} (h : x ∉ ps.map (·.1)) : ps.lookup x = none := by
  induction ps with
  | nil => rfl
  | cons p ps ih =>
    simp only [List.map_cons, List.mem_cons, not_or] at h
    rw [List.lookup_cons, show (x == p.1) = false from beq_eq_false_iff_ne.mpr h.1]
    exact ih h.2
theorem kw_loop {β : Type} (normal : List Str) (f : Str × Value → List (Str × Value) × β → Sem (ForInStep (List (Str × Value) × β))) (e : β)
    (hf : ∀ (q : Str × Value) (sl : List (Str × Value)), normal.contains q.1 = true → sl.lookup q.1 = none → f q (sl, e) = pure (.yield (sl ++ [q], e))) :
    ∀ (kw : List (Str × Value)) (sl : List (Str × Value)), (∀ q ∈ kw, normal.contains q.1 = true) → (sl.map (·.1) ++ kw.map (·.1)).Nodup → forIn kw (sl, e) f = pure (sl ++ kw, e)
  | [], sl, _, _ => by rw [List.forIn_nil, List.append_nil]
  | q :: kw, sl, h1, h2 => by
    rw [List.forIn_cons, hf q sl (h1 q List.mem_cons_self) (look_app fun z => ?_)]
    · have ih := kw_loop normal f e hf kw (sl ++ [q]) (fun r hr => h1 r (List.mem_cons_of_mem _ hr)) (by simpa using h2)
      rw [List.append_assoc] at ih
      exact ih
    · rw [List.nodup_append] at h2
      exact h2.2.2 q.1 z q.1 (by simp) rfl
theorem bindK {fd : FuncData} {ps : List Str} {us : List Value} {kw : List (Str × Value)} (h1 : fd.params.posonlyargs = []) (h2 : fd.params.args.map (·.arg) = ps) (h3 : fd.params.vararg = none) (h4 : fd.params.kwonlyargs = []) (h5 : fd.params.kwarg = none) (h6 : fd.defaults = .none)
    (hk : ∀ q ∈ kw, ps.contains q.1 = true) (nd : ((ps.zip us).map (·.1) ++ kw.map (·.1)).Nodup) (hl : us.length ≤ ps.length) (all : ∀ x ∈ ps, ((ps.zip us ++ kw).lookup x).isSome = true) :
    bindArgs fd ⟨us, kw⟩ = pure (ps.filterMap fun n => ((ps.zip us ++ kw).lookup n).map (n, ·)) := by
  unfold bindArgs
  simp only [h1, h2, h3, h4, h5, h6, List.map_nil, List.nil_append, List.append_nil, List.forIn_nil]
  rw [kw_loop ps _ [] (fun q sl a b => by
    have a' : q.1 ∈ ps := by simpa using a
    simp [a', b]) kw (ps.zip us) hk nd]
  have e1 : seqItems? Value.none = (pure none : Sem (Option (Array Value))) := rfl
  rw [e1]
  simp only [pure_bind, Option.getD_none, List.drop_nil, List.length_nil, Nat.sub_zero, List.take_length, List.drop_length, List.zip_nil_right, List.forIn_nil]
  rw [if_neg (by simp; omega)]
  have e2 : (ps.filter fun n => ((ps.zip us ++ kw).lookup n).isNone) = [] := by
    rw [List.filter_eq_nil_iff]
    intro x hx
    have := all x hx
    cases q : (ps.zip us ++ kw).lookup x with
    | none => rw [q] at this; cases this
    | some v => simp
  rw [e2]
  rfl
/-- what stands at these places of a list -/
def pick {α : Type} (pm : List Nat) (l : List α) : List α := pm.filterMap fun i => l[i]?
/-- the names ps are those of the places pm among n positional ones and the keywords ks -/
def permOk (ps ks : List Str) (n : Nat) (pm : List Nat) : Bool := decide (pm.map (fun i => (ps.take n ++ ks)[i]?) = ps.map some) && decide (ps.take n ++ ks).Nodup && decide (n ≤ ps.length) && ks.all fun k => ps.contains k
theorem zip_keys {α : Type} : ∀ {ps : List Str} {us : List α}, us.length ≤ ps.length → (ps.zip us).map (·.1) = ps.take us.length
  | ps, [], _ => by simp
  | [], u :: us, h => by simp at h
  | p :: ps, u :: us, h => by
    simp only [List.zip_cons_cons, List.map_cons, List.length_cons, List.take_succ_cons]
    rw [zip_keys (by simpa using h)]
theorem look_at {α : Type} : ∀ {ns : List Str} {us : List α} {i : Nat} {x : Str}, ns.Nodup → ns[i]? = some x → us.length = ns.length → (ns.zip us).lookup x = us[i]?
  | [], _, _, _, _, h, _ => by simp at h
  | n :: ns, [], _, _, _, _, h => by simp at h
  | n :: ns, u :: us, 0, x, nd, h, _ => by
    have h : n = x := by simpa using h
    subst h
    simp [List.lookup_cons]
  | n :: ns, u :: us, i + 1, x, nd, h, hl => by
    have h : ns[i]? = some x := by simpa using h
    have hx : x ≠ n := fun z => (List.nodup_cons.mp nd).1 (by rw [← z]; exact List.mem_of_getElem? h)
    rw [List.zip_cons_cons, List.lookup_cons, show (x == n) = false from beq_eq_false_iff_ne.mpr hx, List.getElem?_cons_succ]
    exact look_at (List.nodup_cons.mp nd).2 h (by simpa using hl)
theorem zip_take {α : Type} : ∀ {ps : List Str} {us : List α}, us.length ≤ ps.length → ps.zip us = (ps.take us.length).zip us
  | ps, [], _ => by simp
  | [], u :: us, h => by simp at h
  | p :: ps, u :: us, h => by
    simp only [List.zip_cons_cons, List.length_cons, List.take_succ_cons]
    rw [← zip_take (by simpa using h)]
theorem pick_zip : ∀ {ps : List Str} {pm : List Nat} {l : List Value} {f : Str → Option Value}, pm.length = ps.length → (∀ (j : Nat) (x : Str) (i : Nat), ps[j]? = some x → pm[j]? = some i → f x = l[i]? ∧ (l[i]?).isSome = true) → ps.filterMap (fun n => (f n).map (n, ·)) = ps.zip (pick pm l)
  | [], [], _, _, _, _ => rfl
  | p :: ps, i :: pm, l, f, hl, h => by
    obtain ⟨h1, h2⟩ := h 0 p i rfl rfl
    obtain ⟨v, hv⟩ := Option.isSome_iff_exists.mp h2
    have ih := pick_zip (ps := ps) (pm := pm) (l := l) (f := f) (by simpa using hl) fun j x i a b => h (j + 1) x i (by simpa using a) (by simpa using b)
    have e : pick (i :: pm) l = v :: pick pm l := by
      unfold pick
      rw [List.filterMap_cons, hv]
    rw [List.filterMap_cons, h1, hv, e, List.zip_cons_cons, ← ih]
    rfl
  | [], _ :: _, _, _, h, _ => by simp at h
  | _ :: _, [], _, _, h, _ => by simp at h
/-- a def with plain parameters alone -/
def plainArgs (a : Arguments) (ps : List Str) : Bool := a.posonlyargs.isEmpty && decide (a.args.map (·.arg) = ps) && a.vararg.isNone && a.kwonlyargs.isEmpty && a.kwarg.isNone && a.defaults.isEmpty && a.kw_defaults.isEmpty
theorem bind_perm {fd : FuncData} {a : Arguments} {ps ks : List Str} {n : Nat} {pm : List Nat} {us ws : List Value} (ha : plainArgs a ps = true) (hp : fd.params = a) (hd : fd.defaults = .none) (ok : permOk ps ks n pm = true) (hu : us.length = n) (hw : ws.length = ks.length) :
    bindArgs fd ⟨us, ks.zip ws⟩ = pure (ps.zip (pick pm (us ++ ws))) := by
  subst hp hu
  unfold plainArgs at ha
  simp only [Bool.and_eq_true, decide_eq_true_eq, List.isEmpty_iff, Option.isNone_iff_eq_none] at ha
  obtain ⟨⟨⟨⟨⟨⟨a1, a2⟩, a3⟩, a4⟩, a5⟩, a6⟩, a7⟩ := ha
  unfold permOk at ok
  simp only [Bool.and_eq_true, decide_eq_true_eq, List.all_eq_true] at ok
  obtain ⟨⟨⟨o1, o2⟩, o3⟩, o4⟩ := ok
  have ek : (ks.zip ws).map (·.1) = ks := by rw [zip_keys (by omega), hw, List.take_length]
  have ez : ps.zip us ++ ks.zip ws = (ps.take us.length ++ ks).zip (us ++ ws) := by
    rw [List.zip_append (by rw [List.length_take]; omega), ← zip_take o3]
  have elen : (us ++ ws).length = (ps.take us.length ++ ks).length := by rw [List.length_append, List.length_append, List.length_take, hw]; omega
  have epm : pm.length = ps.length := by simpa using congrArg List.length o1
  have key : ∀ (j : Nat) (x : Str) (i : Nat), ps[j]? = some x → pm[j]? = some i → (ps.zip us ++ ks.zip ws).lookup x = (us ++ ws)[i]? ∧ ((us ++ ws)[i]?).isSome = true := by
    intro j x i hj hi
    have q := congrArg (·[j]?) o1
    simp only [List.getElem?_map, hj, hi, Option.map_some] at q
    have q : (ps.take us.length ++ ks)[i]? = some x := Option.some.inj q
    rw [ez]
    refine ⟨look_at o2 q elen, ?_⟩
    have hlt := (List.getElem?_eq_some_iff.mp q).1
    rw [List.getElem?_eq_getElem (by omega)]
    rfl
  rw [bindK a1 a2 a3 a4 a5 hd (fun q hq => o4 q.1 (by rw [← ek]; exact List.mem_map_of_mem hq)) (by rw [zip_keys o3, ek]; exact o2) o3 (fun x hx => by
    obtain ⟨j, hj⟩ := List.mem_iff_getElem?.mp hx
    have hjl := (List.getElem?_eq_some_iff.mp hj).1
    obtain ⟨k1, k2⟩ := key j x _ hj (List.getElem?_eq_getElem (by omega))
    rw [k1]
    exact k2)]
  rw [pick_zip epm key]
theorem vals_at : ∀ {vs : List V} {us : List Value} {i : Nat}, Vals vs us → (∃ v u, vs[i]? = some v ∧ us[i]? = some u ∧ RelV v u) ∨ (vs[i]? = none ∧ us[i]? = none)
  | _, _, i, .nil => .inr ⟨by simp, by simp⟩
  | _, _, 0, .cons r _ => .inl ⟨_, _, rfl, rfl, r⟩
  | _, _, i + 1, .cons _ t => by simpa using vals_at (i := i) t
theorem vals_pick : ∀ (pm : List Nat) {vs : List V} {us : List Value}, Vals vs us → Vals (pick pm vs) (pick pm us)
  | [], _, _, _ => .nil
  | i :: pm, vs, us, r => by
    have ih := vals_pick pm r
    unfold pick at ih ⊢
    rw [List.filterMap_cons, List.filterMap_cons]
    rcases vals_at (i := i) r with ⟨v, u, h1, h2, h3⟩ | ⟨h1, h2⟩
    · rw [h1, h2]
      exact .cons h3 ih
    · rw [h1, h2]
      exact ih
theorem reps_at {B : Bs} {L : List Addr} {H : Hp} : ∀ {vs : List V} {ds : List D} {i : Nat}, Reps B L H vs ds → (∃ v d, vs[i]? = some v ∧ ds[i]? = some d ∧ Rep B L H v d) ∨ (vs[i]? = none ∧ ds[i]? = none)
  | _, _, i, .nil => .inr ⟨by simp, by simp⟩
  | _, _, 0, .cons r _ => .inl ⟨_, _, rfl, rfl, r⟩
  | _, _, i + 1, .cons _ t => by simpa using reps_at (i := i) t
theorem reps_pick {B : Bs} {L : List Addr} {H : Hp} : ∀ (pm : List Nat) {vs : List V} {ds : List D}, Reps B L H vs ds → Reps B L H (pick pm vs) (pick pm ds)
  | [], _, _, _ => .nil
  | i :: pm, vs, ds, r => by
    have ih := reps_pick pm r
    unfold pick at ih ⊢
    rw [List.filterMap_cons, List.filterMap_cons]
    rcases reps_at (i := i) r with ⟨v, u, h1, h2, h3⟩ | ⟨h1, h2⟩
    · rw [h1, h2]
      exact .cons h3 ih
    · rw [h1, h2]
      exact ih

/-! ### what a def promises -/
abbrev MF := List D → Sto → R D
def spD (B : Bs) (ar : Nat) (f : MF) : Sp := fun vs H Q _ => ∃ S O L ds, StoOk B O L H S ∧ TabsN B.tabs H ∧ Reps B L (hid (O ++ L) H) vs ds ∧ ds.length = ar ∧ (f ds S).sat (Post B O L H Q)
/-- a def as it stands: number i of the text -/
structure Def (B : Bs) (X : Cx) (k : Nat) (x : Str) (i : Nat) (ps : List Str) (a : Arguments) (f : MF) : Prop where
  mg : X.mg x = some (.ref (B.fa i))
  kp : PySem.W.keepIn X.K (.ref (B.fa i)) = true
  pl : plainArgs a ps = true
  ok : ∃ fd : FuncData, fd.params = a ∧ fd.defaults = .none ∧ FnOk X.prog X.w X.K X.mg X.base CX0 k (B.fa i) fd ps (spD B ps.length f)
def callS (f : MF) (ar : Nat) (xs : List D) (S : Sto) : R D := guardR (decide (xs.length = ar)) (f xs S)
section
variable {X : Cx} {B : Bs} {k i : Nat} {x : Str} {ps : List Str} {a : Arguments} {f : MF} {p pos : Pos} {e : Expr} {es : List Expr} {fr : ML}
theorem idPerm {ps : List Str} (nd : ps.Nodup) : permOk ps [] ps.length (List.range ps.length) = true := by
  unfold permOk
  simp only [List.take_length, List.append_nil, Bool.and_eq_true, decide_eq_true_eq, List.all_nil, and_true]
  refine ⟨⟨?_, nd⟩, Nat.le_refl _⟩
  apply List.ext_getElem?
  intro j
  rw [List.getElem?_map, List.getElem?_map]
  by_cases h : j < ps.length
  · rw [List.getElem?_range h, List.getElem?_eq_getElem h]
    simp [h]
  · rw [List.getElem?_eq_none (by simp; omega), List.getElem?_eq_none (by omega)]
    rfl
theorem pick_range {α : Type} (l : List α) : pick (List.range l.length) l = l := by
  unfold pick
  apply List.ext_getElem?
  intro j
  induction l generalizing j with
  | nil => rfl
  | cons a l ih =>
    rw [List.length_cons, List.range_succ_eq_map, List.filterMap_cons, List.filterMap_map]
    cases j with
    | zero => rfl
    | succ j =>
      simp only [List.getElem?_cons_zero, List.getElem?_cons_succ]
      exact ih j
theorem binds_plain {K : PySem.W.Frag} {fd : FuncData} (pl : plainArgs a ps = true) (hp : fd.params = a) (hd : fd.defaults = .none) (nd : ps.Nodup) : Binds K fd ps [] := .all fun us hl => by
  have q := bind_perm (ks := []) (ws := []) pl hp hd (idPerm nd) hl rfl
  rw [List.append_nil, ← hl, pick_range] at q
  exact q
theorem w_call {σ : L2.St} {H : Hp} {Q : VK} (h : tD B (mL fr (callS f ps.length)) σ H Q) : tCall (spD B ps.length f) [] E0 (tA B fr) σ H Q := by
  obtain ⟨ρ, S, O, L, st, h⟩ := h
  unfold mL at h
  rw [R.sat_bind] at h
  refine ⟨ρ, S, O, L, st, R.sat_mono h fun xs S1 p vs H1 L1 e1 r1 o1 t1 => ?_⟩
  obtain ⟨hl, p⟩ := sat_guard.mp p
  rw [List.append_nil]
  exact ⟨S1, O, L1, xs, o1, t1, r1, of_decide_eq_true hl, R.sat_mono p fun _ _ z => z.ext e1⟩
theorem de_call (d : Def B X k x i ps a f) (nd : ps.Nodup) (hr : Room k X.A) (hg : Gl X x) (ha : PA X (e :: es) (tA B fr)) (hx : noDunder x = true) (hst : (e :: es).all (fun e => !isStar e) = true) : PE X (.Call (.Name x p) (e :: es) [] pos) (tD B (mL fr (callS f ps.length))) := by
  obtain ⟨fd, h1, h2, h3⟩ := d.ok
  obtain ⟨n1, n2, _⟩ := noD1 hx
  obtain ⟨s1, s2⟩ := and2 (show ((!isStar e) && es.all fun e => !isStar e) = true from hst)
  exact peW (pe_call h3 hr hg d.mg d.kp (binds_plain d.pl h1 h2 nd) .nil pass0 ha n2 (starEach_cons (by simpa using s1)) (star_none s2)) fun _ _ _ h => w_call h
theorem de_call0 (d : Def B X k x i ps a f) (nd : ps.Nodup) (hr : Room k X.A) (hg : Gl X x) (hx : noDunder x = true) : PE X (.Call (.Name x p) [] [] pos) (tD B (mL nilL (callS f ps.length))) := by
  obtain ⟨fd, h1, h2, h3⟩ := d.ok
  obtain ⟨n1, n2, _⟩ := noD1 hx
  refine peW (pe_call0 h3 hr hg d.mg d.kp (binds_plain d.pl h1 h2 nd) .nil pass0 n2) fun σ H Q h => ?_
  obtain ⟨ρ, S, O, L, st, h⟩ := h
  have h : (callS f ps.length [] S).sat (Post B O L H Q) := h
  obtain ⟨hl, p⟩ := sat_guard.mp h
  exact ⟨S, O, L, [], st.sto, st.tab, .nil, of_decide_eq_true hl, p⟩
/-! keywords -/
def callK (f : MF) (ar : Nat) (pm : List Nat) (fr fk : ML) : MD := fun ρ S => (fr ρ S).bind fun xs S1 => (fk ρ S1).bind fun ys S2 => guardR (decide (xs.length + ys.length = ar ∧ (pick pm (xs ++ ys)).length = ar)) (f (pick pm (xs ++ ys)) S2)
theorem kw_nil : PK X [] (tA B nilL) := ⟨fun pos pins s σ H Q I ⟨ρ, S, O, L, st, h⟩ => pk_nil.run pos pins s σ H Q I (h [] H L (Ext.refl L H) .nil st.sto st.tab)⟩
theorem kw_cons {nm : Option Str} {kpos : Pos} {kws : List Keyword} {fa : MD} (ha : PE X e (tD B fa)) (hr : PK X kws (tA B fr)) : PK X (⟨nm, e, kpos⟩ :: kws) (tA B (consL fa fr)) := by
  have q := pk_cons (nm := nm) (kpos := kpos) ha hr
  refine ⟨fun pos pins s σ H Q I ⟨ρ, S, O, L, st, h⟩ => q.run pos pins s σ H Q I ?_⟩
  unfold consL at h
  rw [R.sat_bind] at h
  refine ⟨ρ, S, O, L, st, R.sat_mono h fun x S1 p v H1 L1 e1 r1 o1 t1 => ?_⟩
  rw [R.sat_bind] at p
  refine ⟨ρ, S1, O, L1, st.ext e1 o1 t1, R.sat_mono p fun xs S2 p vs H2 L2 e2 r2 o2 t2 => ?_⟩
  exact p (v :: vs) H2 L2 (e1.trans e2) (.cons (r1.ext e2) r2) o2 t2
/-- the names of keywords -/
def kwNames (kws : List Keyword) : List Str := kws.filterMap (·.arg)
theorem kw_all {env : PySem.Env} : ∀ {kws : List Keyword}, kws.all (·.arg.isSome) = true → (backToKw pos (keywordEach kws env)).all (·.1.isSome) = true ∧ (backToKw pos (keywordEach kws env)).filterMap (·.1) = kwNames kws ∧ (backToKw pos (keywordEach kws env)).any (·.1.isNone) = false
  | [], _ => ⟨rfl, rfl, rfl⟩
  | ⟨nm, e, q⟩ :: kws, h => by
    obtain ⟨h1, h2⟩ := and2 (show (nm.isSome && kws.all (·.arg.isSome)) = true from h)
    obtain ⟨a, b, c⟩ := kw_all (env := env) h2
    cases nm with
    | none => cases h1
    | some n => exact ⟨a, congrArg (n :: ·) b, c⟩
theorem star_none2 {env : PySem.Env} {es : List Expr} (h : es.all (fun e => !isStar e) = true) : (backTo pos (starEach es env)).any (·.1) = false := star_none h
theorem kbn_plain {K : PySem.W.Frag} {fd : FuncData} {ks : List Str} {n : Nat} {pm : List Nat} (pl : plainArgs a ps = true) (hp : fd.params = a) (hd : fd.defaults = .none) (ok : permOk ps ks n pm = true) : KBn K fd ps n ks (fun us ws => pick pm (us ++ ws)) (fun vs zs => pick pm (vs ++ zs)) :=
  ⟨fun s us ws _ l1 l2 => .of_eq (bind_perm pl hp hd ok l1 l2), fun r1 r2 => vals_pick pm (r1.append r2)⟩
theorem w_callK {fk : ML} {n m : Nat} {pm : List Nat} {σ : L2.St} {H : Hp} {Q : VK} (hn : ∀ ρ S xs S1, fr ρ S = .ok xs S1 → xs.length = n) (hm : ∀ ρ S xs S1, fk ρ S = .ok xs S1 → xs.length = m) (h : tD B (callK f ps.length pm fr fk) σ H Q) :
    tCallN n m (spD B ps.length f) (fun vs zs => pick pm (vs ++ zs)) E0 (tA B fr) (tA B fk) σ H Q := by
  obtain ⟨ρ, S, O, L, st, h⟩ := h
  unfold callK at h
  rw [R.sat_bind] at h
  refine ⟨ρ, S, O, L, st, ?_⟩
  cases q : fr ρ S with
  | exc x S1 => rw [q] at h; exact h.elim
  | bad => rw [q] at h; exact h.elim
  | ok xs S1 =>
    rw [q] at h
    have hx := hn _ _ _ _ q
    have h : ((fk ρ S1).bind fun ys S2 => guardR (decide (xs.length + ys.length = ps.length ∧ (pick pm (xs ++ ys)).length = ps.length)) (f (pick pm (xs ++ ys)) S2)).sat (Post B O L H Q) := h
    rw [R.sat_bind] at h
    intro vs H1 L1 e1 r1 o1 t1
    refine ⟨ρ, S1, O, L1, st.ext e1 o1 t1, ?_⟩
    cases q2 : fk ρ S1 with
    | exc x S2 => rw [q2] at h; exact h.elim
    | bad => rw [q2] at h; exact h.elim
    | ok ys S2 =>
      rw [q2] at h
      have hy := hm _ _ _ _ q2
      intro zs H2 L2 e2 r2 o2 t2
      obtain ⟨hl, p⟩ := sat_guard.mp h
      have hl := of_decide_eq_true hl
      refine ⟨by rw [r1.length]; exact hx, by rw [r2.length]; exact hy, S2, O, L2, _, o2, t2, reps_pick pm ((r1.ext e2).app r2), hl.2, R.sat_mono p fun _ _ z => z.ext (e1.trans e2)⟩
theorem de_callK {kws : List Keyword} {fk : ML} {pm : List Nat} (d : Def B X k x i ps a f) (hr : Room k X.A) (hg : Gl X x) (ha : PA X (e :: es) (tA B fr)) (hkw : PK X kws (tA B fk)) (hx : noDunder x = true) (hst : (e :: es).all (fun e => !isStar e) = true) (hks : kws.all (·.arg.isSome) = true)
    (ok : permOk ps (kwNames kws) (e :: es).length pm = true) (hn : ∀ ρ S xs S1, fr ρ S = .ok xs S1 → xs.length = (e :: es).length) (hm : ∀ ρ S xs S1, fk ρ S = .ok xs S1 → xs.length = (kwNames kws).length) :
    PE X (.Call (.Name x p) (e :: es) kws pos) (tD B (callK f ps.length pm fr fk)) := by
  obtain ⟨fd, h1, h2, h3⟩ := d.ok
  obtain ⟨n1, n2, _⟩ := noD1 hx
  obtain ⟨s1, s2⟩ := and2 (show ((!isStar e) && es.all fun e => !isStar e) = true from hst)
  obtain ⟨k1, k2, k3⟩ := kw_all (pos := pos) (env := X.env) hks
  refine peW (pe_callN h3 hr hg d.mg d.kp (kbn_plain d.pl h1 h2 ok) pass0 ha hkw k1 k2 n2 (starEach_cons (by simpa using s1)) (by rw [star_none hst, k3] <;> rfl)) fun _ _ _ h => w_callK hn hm h
end
end PD


set_option Elab.async false
set_option linter.all false
set_option maxRecDepth 100000
set_option maxHeartbeats 4000000
/-! PD9: isinstance, globals, lists that change, calls of held functions, nested defs. -/
namespace PD
open PySem PySem.Spec PyProof.Rows L2 LamX NdefX

/-! ### isinstance -/
def tyD (S : Sto) : D → Option String
  | .non => some "NoneType"
  | .bl _ => some "bool"
  | .int _ => some "int"
  | .str _ => some "str"
  | .tup _ => some "tuple"
  | .lst _ => some "list"
  | .loc n => (MO.asL S[n]?).map fun _ => "list"
  | _ => none
def isiB (a T : String) : Bool := a == T || (a == "bool" && T == "int")
def isiM (T : String) (fa : MD) : MD := fun ρ S => (fa ρ S).bind fun d S1 => match tyD S1 d with
  | some a => .ok (.bl (isiB a T)) S1
  | none => .bad
theorem kit_all : ∀ a ∈ ["NoneType", "bool", "int", "str", "tuple", "list"], ∀ T ∈ ["int", "bool", "tuple", "list", "str"], kitB a T = some (isiB a T) := by decide +kernel
theorem tyX_of {B : Bs} {O L : List Addr} {H : Hp} {S : Sto} {v : V} {d : D} {a : String} (o : StoOk B O L H S) (r : Rep B L (hid (O ++ L) H) v d) (h : tyD S d = some a) : TyX B.K H v (.type a) ∧ a ∈ ["NoneType", "bool", "int", "str", "tuple", "list"] := by
  cases d with
  | non => cases r; cases h; exact ⟨.base .non, by simp⟩
  | bl b => cases r; cases h; exact ⟨.base (.bl b), by simp⟩
  | int i => cases r; cases h; exact ⟨.base (.int i), by simp⟩
  | str x => cases r; cases h; exact ⟨.base (.str x), by simp⟩
  | tup xs =>
    cases h
    obtain ⟨p, vs, rfl, h1, h2⟩ := tup_of (xs := xs) r rfl
    refine ⟨?_, by simp⟩
    rcases h1 with (h1 | ⟨q, h1⟩) | ⟨q, its, n, k1, k2, _⟩
    · exact .base (.tup h1)
    · exact .fTuple h1
    · exact .kTuple k1 k2
  | lst xs =>
    cases h
    obtain ⟨p, vs, rfl, h1, h2⟩ := lst_of (xs := xs) o r rfl
    refine ⟨?_, by simp⟩
    rcases h1 with h1 | ⟨q, h1⟩
    · exact .base (.lst h1)
    · exact .base (.frz h1)
  | loc n =>
    have h : (MO.asL S[n]?).map (fun _ => "list") = some a := h
    cases e : MO.asL S[n]? with
    | none => rw [e] at h; cases h
    | some xs =>
      rw [e] at h
      cases h
      obtain ⟨p, vs, rfl, h1, h2⟩ := lst_of (xs := xs) o r e
      refine ⟨?_, by simp⟩
      rcases h1 with h1 | ⟨q, h1⟩
      · exact .base (.lst h1)
      · exact .base (.frz h1)
  | fn i => cases h
  | clo i => cases h
  | scr i => cases h
section
variable {X : Cx} {B : Bs} {e a : Expr} {fa fo fi : MD} {p p2 pos apos cpos : Pos}
theorem de_isi {T : String} (hK : X.K = B.K) (hT : T ∈ ["int", "bool", "tuple", "list", "str"]) (hg : Gl X "isinstance") (hm : X.mg "isinstance" = none) (hgT : Gl X (Str.ofString T)) (hmT : X.mg (Str.ofString T) = none) (ha : PE X e (tD B fa)) (hs : isStar e = false) :
    PE X (.Call (.Name "isinstance" p) [e, .Name (Str.ofString T) p2] [] pos) (tD B (isiM T fa)) := by
  have hb : bootBuiltins (Str.ofString T) = some (.type T) := by
    simp only [List.mem_cons, List.not_mem_nil, or_false] at hT
    rcases hT with rfl | rfl | rfl | rfl | rfl <;> rfl
  have n1 : Str.ofString T ≠ Str.ofString "__name__" := by
    simp only [List.mem_cons, List.not_mem_nil, or_false] at hT
    rcases hT with rfl | rfl | rfl | rfl | rfl <;> decide
  have n2 : (Str.ofString T == Str.ofString "__debug__") = false := by
    simp only [List.mem_cons, List.not_mem_nil, or_false] at hT
    rcases hT with rfl | rfl | rfl | rfl | rfl <;> decide
  have ht : PE X (.Name (Str.ofString T) p2) (tC (.ty T)) := pe_bltn hgT hmT hb rfl n1 n2
  refine peW (pe_callB call_isi hg hm (by rfl) (pa_cons ha (pa_cons ht pa_nil (starEach_cons rfl)) (starEach_cons hs)) (by decide) (by decide) (starEach_cons hs) (by rfl)) fun σ H Q ⟨ρ, S, O, L, st, h⟩ => ?_
  unfold isiM at h
  rw [R.sat_bind] at h
  refine ⟨ρ, S, O, L, st, R.sat_mono h fun d S1 q v H1 L1 e1 r1 o1 t1 => ?_⟩
  split at q
  · rename_i a ha
    obtain ⟨ty, hm⟩ := tyX_of o1 r1 ha
    refine ⟨v, .ty T, .type a, .type T, _, rfl, .ty T, by rw [hK]; exact ty, kit_ty (kit_all a hm T hT), ?_⟩
    exact q _ H1 L1 e1 (.bl _) o1 t1
  · exact q.elim
theorem boolM_isi {T : String} : BoolM (isiM T fa) := fun ρ S d S1 e => by
  obtain ⟨x, S2, _, e⟩ := bind_ok_inv e
  split at e
  · cases e
    exact ⟨_, rfl⟩
  · cases e

/-! ### tests -/
theorem dt_pw {f : MB} (h : PW X e (tT B f)) : PT X e (tT B f) := ⟨fun pins s σ H Q I q => h.run _ pins s σ H Q I q⟩

/-! ### globals -/
theorem de_glob {x : Str} {v : V} {u : Value} {d : D} (hg : Gl X x) (hm : X.mg x = some u) (r : RelV v u) (hd : (x == ("__debug__" : Str)) = false) (hr : ∀ L H, Rep B L H v d) : PE X (.Name x pos) (tD B (conM d)) :=
  de_const (pe_glob hg hm r hd) hr
theorem de_globI {x : Str} {i : Int} {t : Tok} (hg : Gl X x) (hm : X.mg x = some (.int i t)) (hd : (x == ("__debug__" : Str)) = false) : PE X (.Name x pos) (tD B (conM (.int i))) :=
  de_glob (v := .int i) hg hm ⟨t, rfl⟩ hd fun _ _ => .int i
theorem de_globF {x : Str} {j : Nat} (hg : Gl X x) (hm : X.mg x = some (.ref (B.fa j))) (hd : (x == ("__debug__" : Str)) = false) : PE X (.Name x pos) (tD B (conM (.fn j))) :=
  de_glob (v := .ref (B.fa j)) hg hm rfl hd fun _ _ => .fn j

/-! ### x.append(y) -/
def locL (S : Sto) (o : D) : Option (Nat × List D) := match o with
  | .loc n => (MO.asL S[n]?).map fun xs => (n, xs)
  | _ => none
theorem locL_some {S : Sto} {o : D} {n : Nat} {xs : List D} (h : locL S o = some (n, xs)) : o = .loc n ∧ S[n]? = some (.lst xs) := by
  unfold locL at h
  split at h
  · rename_i m
    cases e : MO.asL S[m]? with
    | none => rw [e] at h; cases h
    | some ys =>
      rw [e] at h
      cases h
      exact ⟨rfl, asL_some e⟩
  · cases h
theorem StOk.putL {O L : List Addr} {σ : L2.St} {H : Hp} {ρ : Env} {S : Sto} {n : Nat} {a : Addr} {us vs : List V} {xs : List D} (s : StOk B O σ H ρ S L) (ha : L[n]? = some a) (hl : H a = some (.lst us)) (r : Reps B L (hid (O ++ L) H) vs xs) :
    Ext O L H L (upd H a (.lst vs)) ∧ StOk B O σ (upd H a (.lst vs)) ρ (S.set n (.lst xs)) L := by
  have hin : a ∈ O ++ L := List.mem_append_right _ (List.mem_of_getElem? ha)
  refine s.put ha ⟨vs, upd_same, by rw [hid_in hin]; exact r⟩ (fun q hq z => ?_) fun b q hb z => ?_
  · obtain ⟨ps, h1, _⟩ := s.tab q hq
    rw [z, hl] at h1
    cases h1
  · rw [z, hl] at hb
    unfold CodeO at hb
    cases hb
def appM (fo fa : MD) : MD := fun ρ S => (fo ρ S).bind fun o S1 => (lift (locL S1 o) S1).bind fun _ S2 => (fa ρ S2).bind fun d S3 => match locL S3 o with
  | some (n, xs) => guardR (decide (xs.length < lim)) (.ok .non (S3.set n (.lst (xs ++ [d]))))
  | none => .bad
theorem loc_at {O L : List Addr} {H : Hp} {S : Sto} {v : V} {o : D} {n : Nat} {xs : List D} (so : StoOk B O L H S) (r : Rep B L (hid (O ++ L) H) v o) (h : locL S o = some (n, xs)) : ∃ a us, v = .ref a ∧ L[n]? = some a ∧ H a = some (.lst us) ∧ Reps B L (hid (O ++ L) H) us xs := by
  obtain ⟨rfl, h1⟩ := locL_some h
  cases r with
  | loc h2 =>
    obtain ⟨a, ha, us, h3, h4⟩ := so.at_ n _ h1
    rw [h2] at ha
    cases ha
    exact ⟨_, us, rfl, h2, h3, h4⟩
theorem few_args {env : PySem.Env} (h : isStar e = false) : ((backTo cpos (starEach [e] env)).all (fun x => !x.1) && (backToKw cpos (keywordEach [] env)).all (fun x => x.1.isSome)
      && decide (([e]).length + ([] : List Keyword).length + (if ([] : List Keyword).isEmpty then 0 else 1) < 30)) = true := by
  rw [starEach_cons h]
  rfl
theorem de_append {o : Expr} (ho : PE X o (tD B fo)) (ha : PE X e (tD B fa)) (hs : isStar e = false) (hbase : attributeBase o "append" X.env (eval o X.env) = eval o X.env) (hline : (apos.endLine == cpos.line) = true) :
    PE X (.Call (.Attribute o "append" apos) [e] [] cpos) (tD B (appM fo fa)) :=
  peW (pe_bm PySem.F.plainAttrs_list PySem.F.slot_list_append PySem.F.type_list_append mt_append ho (pa_cons ha pa_nil (starEach_cons hs)) hbase (few_args hs) hline (starEach_cons hs) (by rfl)) fun σ H Q ⟨ρ, S, O, L, st, h⟩ => by
    unfold appM at h
    rw [R.sat_bind] at h
    refine ⟨ρ, S, O, L, st, R.sat_mono h fun o S1 q v H1 L1 e1 r1 o1 t1 => ?_⟩
    rw [R.sat_bind] at q
    obtain ⟨⟨n, xs⟩, hl, q⟩ := sat_lift.mp q
    obtain ⟨a, us, rfl, h1, h2, h3⟩ := loc_at o1 r1 hl
    rw [R.sat_bind] at q
    refine ⟨.inl ⟨rfl, us, .inl (.inl h2)⟩, ρ, S1, O, L1, st.ext e1 o1 t1, R.sat_mono q fun d S2 q v H2 L2 e2 r2 o2 t2 => ?_⟩
    split at q
    · rename_i m ys hm
      obtain ⟨hz, q⟩ := sat_guard.mp q
      obtain ⟨b, ws, e, k1, k2, k3⟩ := loc_at o2 (r1.ext e2) hm
      cases e
      have hlen := k3.length
      have hz := of_decide_eq_true hz
      have hz2 : ws.length < sizeLine := by
        rw [sizeLine_eq]
        unfold lim at hz
        omega
      obtain ⟨e3, st3⟩ := (st.ext (e1.trans e2) o2 t2).putL k1 k2 (k3.snoc r2)
      exact ⟨a, ws, v, rfl, rfl, k2, hz2, q _ _ L2 ((e1.trans e2).trans e3) .non st3.sto st3.tab⟩
    · exact q.elim

/-! ### x[i] = .. -/
def putIx (S : Sto) (o i d : D) : Option Sto := match locL S o, i with
  | some (n, xs), .int k => (ixN xs.length k).map fun j => S.set n (.lst (xs.set j d))
  | _, _ => none
def setIx (fo fi : MD) : ME := fun d ρ S => (fo ρ S).bind fun o S1 => (fi ρ S1).bind fun i S2 => match putIx S2 o i d with
  | some S3 => .ok ρ S3
  | none => .bad
theorem Reps.set {L : List Addr} {H : Hp} : ∀ {vs : List V} {ds : List D} {v : V} {d : D} (j : Nat), Reps B L H vs ds → Rep B L H v d → Reps B L H (vs.set j v) (ds.set j d)
  | _, _, _, _, _, .nil, _ => by simp; exact .nil
  | _, _, _, _, 0, .cons _ t, r => .cons r t
  | _, _, _, _, j + 1, .cons h t, r => .cons h (Reps.set j t r)
theorem dg_sub {o i : Expr} (ho : PE X o (tD B fo)) (hi : PE X i (tD B fi)) (ha : ∀ v, assign (.Subscript o i pos) X.env v = (do
      let ov ← holding [v] (eval o X.env)
      let iv ← holding [v, ov] (eval i X.env)
      standAt pos
      holding [v, ov, iv] (setItem ov iv v)
      release [v, ov, iv] [])) : PG X (.Subscript o i pos) (tG B (setIx fo fi)) :=
  pgW (pg_sub ho hi set_list ha) fun v σ H Q ⟨ρ, S, O, L, d, st, r, h⟩ => by
    unfold setIx at h
    rw [R.sat_bind] at h
    refine ⟨ρ, S, O, L, st, R.sat_mono h fun o S1 q ov H1 L1 e1 r1 o1 t1 => ?_⟩
    rw [R.sat_bind] at q
    refine ⟨ρ, S1, O, L1, st.ext e1 o1 t1, R.sat_mono q fun i S2 q iv H2 L2 e2 r2 o2 t2 => ?_⟩
    split at q
    · rename_i S3 hp
      unfold putIx at hp
      split at hp
      · rename_i n xs k hl
        obtain ⟨j, hj, e⟩ := Option.map_eq_some_iff.mp hp
        subst e
        obtain ⟨a, us, rfl, k1, k2, k3⟩ := loc_at o2 (r1.ext e2) hl
        cases r2
        obtain ⟨e3, st3⟩ := (st.ext (e1.trans e2) o2 t2).putL k1 k2 (k3.set j (r.ext (e1.trans e2)))
        exact ⟨a, us, k, j, rfl, rfl, k2, by rw [k3.length]; exact hj, q _ _ L2 ((e1.trans e2).trans e3) st3⟩
      · cases hp
    · exact q.elim
end
end PD


set_option Elab.async false
set_option linter.all false
set_option maxRecDepth 100000
set_option maxHeartbeats 4000000
/-! PD10: calls with keywords alone, calls of what a name holds, defs within defs, ranges as lists, two clauses. -/
namespace PD
open PySem PySem.Spec PyProof.Rows L2 LamX NdefX

/-! ### f(k = v) -/
section
variable {X : Cx} {B : Bs} {k i : Nat} {x : Str} {ps : List Str} {a : Arguments} {f : MF} {p pos : Pos} {e : Expr} {es : List Expr} {fr : ML}
theorem de_callK0 {kws : List Keyword} {fk : ML} {pm : List Nat} (d : Def B X k x i ps a f) (hr : Room k X.A) (hg : Gl X x) (hkw : PK X kws (tA B fk)) (hx : noDunder x = true) (hks : kws.all (·.arg.isSome) = true)
    (ok : permOk ps (kwNames kws) 0 pm = true) (hm : ∀ ρ S xs S1, fk ρ S = .ok xs S1 → xs.length = (kwNames kws).length) :
    PE X (.Call (.Name x p) [] kws pos) (tD B (callK f ps.length pm nilL fk)) := by
  obtain ⟨fd, h1, h2, h3⟩ := d.ok
  obtain ⟨n1, n2, _⟩ := noD1 hx
  obtain ⟨k1, k2, k3⟩ := kw_all (pos := pos) (env := X.env) hks
  refine ⟨fun pins s σ H Q I h => ?_⟩
  have hw := w_callK (n := 0) (fun ρ S xs S1 e => by cases e; rfl) hm h
  have hw : tA B nilL σ H fun vs H1 => tA B fk σ H1 fun zs H2 => vs.length = 0 ∧ zs.length = (kwNames kws).length ∧ spD B ps.length f (pick pm (vs ++ zs)) H2 Q E0 := hw
  refine wpAny_Call_Name_kw (ld_glob I hg d.mg ?_ n2)
  refine PySem.W.callWith_KW0 (h₀ := X.base) I.ok.mod.kin d.kp k1 ?_ (by rw [k3]; rfl)
  have q0 : tA B fk σ H fun zs H2 => zs.length = (kwNames kws).length ∧ spD B ps.length f (pick pm zs) H2 Q E0 := by
    obtain ⟨ρ, S, O, L, st, q⟩ := hw
    have q : PostL B O L H (fun vs H1 => tA B fk σ H1 fun zs H2 => vs.length = 0 ∧ zs.length = (kwNames kws).length ∧ spD B ps.length f (pick pm (vs ++ zs)) H2 Q E0) [] S := q
    obtain ⟨ρ', S', O', L', st', q'⟩ := q [] H L (Ext.refl L H) .nil st.sto st.tab
    exact ⟨ρ', S', O', L', st', R.sat_mono q' fun ds S2 z zs H2 L2 e2 r2 o2 t2 => (z zs H2 L2 e2 r2 o2 t2).2⟩
  refine thn (hkw.run pos pins s σ H _ I q0) fun ws s2 ⟨zs, H2, I2, rz, l2, q2⟩ => ⟨I2.kIn, ?_⟩
  rw [k2]
  have r := run_fnN (us := []) (vs := []) h3 hr (kbn_plain d.pl h1 h2 ok) pass0 I2 .nil rz rfl l2 q2
  simpa using r

/-! ### a call of what a name holds -/
/-- a def at hand, as a value -/
structure HeldF (B : Bs) (X : Cx) (k : Nat) (j ar : Nat) (f : MF) : Prop where
  kp : PySem.W.keepIn X.K (.ref (B.fa j)) = true
  ok : ∃ (fd : FuncData) (ps : List Str), ps.length = ar ∧ FnOk X.prog X.w X.K X.mg X.base CX0 k (B.fa j) fd ps (spD B ar f) ∧ L2.Binds X.K fd ps []
structure HeldC (B : Bs) (X : Cx) (k : Nat) (j ar : Nat) (f : MF) : Prop where
  cl : ∀ c, (B.cf j c).cl = []
  cc : ∀ c, (B.cf j c).c = c
  ok : ∃ ps : List Str, ps.length = ar ∧ ∀ a c, NOk X.prog X.w X.K X.mg X.base CX0 k a (B.cf j c) ps [] (fun _ => spD B ar f)
def callV (gF gC : Nat → Option (Nat × MF)) (i : Nat) (fr : ML) : MD := fun ρ S => match slotD ρ i with
  | some (.fn j) => (lift (gF j) S).bind fun q S0 => (fr ρ S0).bind fun xs S1 => callS q.2 q.1 xs S1
  | some (.clo j) => (lift (gC j) S).bind fun q S0 => (fr ρ S0).bind fun xs S1 => callS q.2 q.1 xs S1
  | _ => .bad
theorem cells0 {h : Heap} {H : Hp} : CellsAt [] [] [] h H := ⟨rfl, fun y c e => by simp at e, fun x y c e => by simp at e, fun i y e => by simp at e⟩
theorem de_callV {gF gC : Nat → Option (Nat × MF)} (hF : ∀ j ar f, gF j = some (ar, f) → HeldF B X k j ar f) (hC : ∀ j ar f, gC j = some (ar, f) → HeldC B X k j ar f) (hr : Room k X.A) (hN : X.N[i]? = some x) (hv : Vis X.env.scope x) (hx : noDunder x = true)
    (ha : PA X (e :: es) (tA B fr)) (hst : (e :: es).all (fun e => !isStar e) = true) : PE X (.Call (.Name x p) (e :: es) [] pos) (tD B (callV gF gC i fr)) := by
  obtain ⟨n1, n2, n3⟩ := noD1 hx
  obtain ⟨s1, s2⟩ := and2 (show ((!isStar e) && es.all fun e => !isStar e) = true from hst)
  have se := starEach_cons (env := X.env) (es := es) (show isStar e = false by simpa using s1)
  refine ⟨fun pins s σ H Q I h => ?_⟩
  obtain ⟨ρ, S, O, L, st, h⟩ := h
  unfold callV at h
  split at h
  · rename_i j hs
    rw [R.sat_bind] at h
    obtain ⟨⟨ar, f⟩, hg, h⟩ := sat_lift.mp h
    rw [R.sat_bind] at h
    obtain ⟨v, hv1, hv2⟩ := st.env i _ (slotD_some hs)
    cases hv2
    have G := hF j ar f hg
    obtain ⟨fd, ps, hl, F, hb⟩ := G.ok
    refine (pe_callL (i := i) (p := p) (pos := pos) (f := B.fa j) (sp := spD B ar f) (dvs := []) (E := E0) F hr hN hv G.kp hb .nil pass0 ha n2 n3 se (star_none s2)).run pins s σ H Q I ⟨hv1, ?_⟩
    refine ⟨ρ, S, O, L, st, R.sat_mono h fun xs S1 q vs H1 L1 e1 r1 o1 t1 => ?_⟩
    obtain ⟨hl, q⟩ := sat_guard.mp q
    rw [List.append_nil]
    exact ⟨S1, O, L1, xs, o1, t1, r1, of_decide_eq_true hl, R.sat_mono q fun _ _ z => z.ext e1⟩
  · rename_i j hs
    rw [R.sat_bind] at h
    obtain ⟨⟨ar, f⟩, hg, h⟩ := sat_lift.mp h
    rw [R.sat_bind] at h
    obtain ⟨v, hv1, hv2⟩ := st.env i _ (slotD_some hs)
    have G := hC j ar f hg
    cases hv2 with
    | @clo _ g c hf hc =>
      obtain ⟨ps, hl, Fn⟩ := G.ok
      have hf0 := hf
      have hf := (hid_some hf).2
      refine wpAny_Call_Name_kw (thn ((pe_var (pos := p) hN hv n2 n3).run pins s σ H (fun v H1 => v = .ref g ∧ H1 = H) I ⟨.ref g, hv1, rfl, rfl⟩) fun u s1 ⟨v, H1, I1, r1, q1⟩ => ?_)
      obtain ⟨ev, eH⟩ := q1
      subst ev
      rw [eH] at I1
      obtain rfl : u = Value.ref g := r1
      have ht : tA B fr σ H fun vs H1 => H1 g = some (FnO g (B.cf j c)) ∧ H1 (B.cf j c).c = some (CodeO (B.cf j c).c (B.cf j c).qual) ∧ spD B ar f vs H1 Q E0 := by
        refine ⟨ρ, S, O, L, st, R.sat_mono h fun xs S1 q vs H1 L1 e1 r1 o1 t1 => ?_⟩
        obtain ⟨hl, q⟩ := sat_guard.mp q
        have hf2 : hid (O ++ L1) H1 g = some (FnO g (B.cf j c)) := e1.sta _ _ hf0 fnO_ne
        have hc2 : hid (O ++ L1) H1 (B.cf j c).c = some (CodeO (B.cf j c).c (B.cf j c).qual) := e1.sta _ _ hc codeO_ne
        exact ⟨(hid_some hf2).2, (hid_some hc2).2, S1, O, L1, xs, o1, t1, r1, of_decide_eq_true hl, R.sat_mono q fun _ _ z => z.ext e1⟩
      refine PySem.W.callWith_F (first := []) (fnAt_of I1 hf) (thn (ha.run pos pins s1 σ H _ I1 ht) fun us s2 ⟨vs, H2, I2, r, h1, h2, q⟩ => ⟨fnAt_of I2 h1, ?_⟩) se (star_none s2)
      show wpAny _ _ (call (.ref g) us) _ _ _
      refine run_n (js := []) (mk := B.cf j) (sp := fun _ _ _ => spD B ar f) (Fn g c) hr (Nat.le_refl _) pass0 I2 h1 h2 ?_ r q
      rw [G.cl c]
      exact cells0
  · exact h.elim
end

/-! ### a def within a def -/
theorem StOk.extN {B : Bs} {O L : List Addr} {σ : L2.St} {H H1 : Hp} {ρ : Env} {S : Sto} (s : StOk B O σ H ρ S L) (e : ExtN H H1) (t : TabsN B.tabs H1) : Ext O L H L H1 ∧ StOk B O σ H1 ρ S L := by
  have x : Ext O L H L H1 := ⟨List.prefix_refl _, fun b o h n => by
    obtain ⟨h1, h2⟩ := hid_some h
    exact hid_of h1 (e _ _ h2 n), fun a ha => by
    obtain ⟨⟨xs, h1⟩, h2⟩ := s.sto.obs a ha
    rw [h1]
    exact e _ _ h1 fun _ z => nomatch z⟩
  refine ⟨x, s.ext x ⟨s.sto.len, s.sto.nd, fun n o hn => ?_, fun a ha => ?_⟩ t⟩
  · obtain ⟨a, h1, h2⟩ := s.sto.at_ n o hn
    refine ⟨a, h1, h2.ext x ?_⟩
    cases o with
    | lst ds =>
      obtain ⟨vs, k1, k2⟩ := h2
      rw [k1]
      exact e _ _ k1 fun _ z => nomatch z
    | dct ds =>
      obtain ⟨vs, k1, k2⟩ := h2
      rw [k1]
      exact e _ _ k1 fun _ z => nomatch z
  · obtain ⟨⟨xs, h1⟩, h2⟩ := s.sto.obs a ha
    exact ⟨⟨xs, e _ _ h1 fun _ z => nomatch z⟩, h2⟩
theorem ExtN.hidden {H H1 : Hp} {M : List Addr} {f : Addr} {o : HO} (hf : H1 f = some o) (hn : f ∉ M) : hid M H1 f = some o := hid_of hn hf
def ndefS (i j : Nat) : MS := fun ρ S => guardR (decide (i < ρ.length)) (.ok (.nx (ρ.set i (some (.clo j)))) S)
/-- the names of a nested def captured: none -/
def freeless (sc : Scope) : Bool := sc.names.all fun y => !decide (y.2 = .free)
theorem clo_none {cells : List (Str × Addr)} : ∀ {names : List (Str × NameKind)} {acc : List (Str × Addr)}, (∀ y ∈ names, y.2 ≠ .free) → cloFrom cells names acc = acc
  | [], _, _ => rfl
  | (n, k) :: r, acc, h => by
    have ih := clo_none (cells := cells) (acc := acc) (names := r) fun y hy => h y (List.mem_cons_of_mem _ hy)
    have hk : k ≠ .free := h (n, k) List.mem_cons_self
    unfold cloFrom
    cases k <;> first | exact ih | exact absurd rfl hk
section
variable {X : Cx} {B : Bs} {i j : Nat}
theorem ds_ndef {nm : Nat → Nat → Str} {c P : Addr} {name : Str} {params : Arguments} {body : List Stmt} {scope : Scope} {pos : Pos} (TB : TabB X.base X.mg c P) (hcode : X.env.code = .ref c) (hm : (P, nm) ∈ B.tabs) (hn : nm pos.line pos.col = X.env.qual ++ name) (hu : ∀ p ∈ B.tabs, p.1 = P → p.2 = nm)
    (hfl : freeless scope = true) (hd0 : params.defaults = []) (hk0 : params.kw_defaults = []) (ha : annTrees params none X.env = [])
    (hN : X.N.Nodup) (hi : X.N[i]? = some name) (hx : Loc X.env.scope name) (hf : X.fn name = true ∨ X.env.scope.names.lookup name = some .local)
    (hcf : ∀ c', B.cf j c' = ⟨name, X.env.qual ++ name, params, body, scope, [], c'⟩) :
    PS X (.FunctionDef name params body [] none [] scope none name pos) (tS B (ndefS i j)) := by
  have hno : ∀ y ∈ scope.names, y.2 ≠ .free := fun y hy z => by
    unfold freeless at hfl
    rw [List.all_eq_true] at hfl
    have := hfl y hy
    simp [z] at this
  refine psW (ps_ndef TB hcode hm hn hu (fun y hy z => absurd z (hno y hy)) hd0 hk0 ha hN hi hx hf) fun E σ H ⟨ρ, S, O, L, st, h⟩ => ⟨st.tab, fun f c' H1 eN t1 f0 f1 c1 => ?_⟩
  obtain ⟨hl, h⟩ := sat_guard.mp h
  obtain ⟨x, st1⟩ := st.extN eN t1
  have hfM : f ∉ O ++ L := st.sto.fresh f0
  have hcM : c' ∉ O ++ L := fun z => by
    rcases List.mem_append.mp z with z | z
    · obtain ⟨⟨xs, h1⟩, _⟩ := st1.sto.obs c' z
      rw [h1] at c1
      unfold CodeO at c1
      cases c1
    · obtain ⟨n, hn'⟩ := List.mem_iff_getElem?.mp z
      have hlt : n < S.length := by rw [← st1.sto.len]; exact (List.getElem?_eq_some_iff.mp hn').1
      obtain ⟨b, hb, m⟩ := st1.sto.at_ n S[n] (List.getElem?_eq_getElem hlt)
      rw [hn'] at hb
      cases hb
      cases e : S[n] with
      | lst ds =>
        rw [e] at m
        obtain ⟨vs, q, _⟩ := m
        rw [q] at c1
        unfold CodeO at c1
        cases c1
      | dct ds =>
        rw [e] at m
        obtain ⟨vs, q, _⟩ := m
        rw [q] at c1
        unfold CodeO at c1
        cases c1
  have f1 : H1 f = some (FnO f ⟨name, X.env.qual ++ name, params, body, scope, cloFrom X.env.cells scope.names [], c'⟩) := f1
  rw [clo_none hno] at f1
  have e0 := hcf c'
  rw [← e0] at f1
  refine h _ H1 L x (st1.set (v := .ref f) (.clo (c := c') (hid_of hfM f1) ?_) (of_decide_eq_true hl))
  rw [e0]
  exact hid_of hcM c1
end

/-! ### bodies -/
/-- a def's run: n slots -/
def runS (n : Nat) (fb : MS) : MF := fun ds S => (fb (ds.map some ++ List.replicate (n - ds.length) none) S).bind fun fl S1 => match fl with
  | .rt d => .ok d S1
  | .nx _ => .ok .non S1
  | _ => .bad
theorem st_start {B : Bs} {O L : List Addr} {H : Hp} {S : Sto} {vs : List V} {ds : List D} {n : Nat} (o : StoOk B O L H S) (t : TabsN B.tabs H) (r : Reps B L (hid (O ++ L) H) vs ds) : StOk B O (vs.map some ++ List.replicate (n - vs.length) none) H (ds.map some ++ List.replicate (n - ds.length) none) S L := by
  have hl := r.length
  refine ⟨fun i d h => ?_, by simp [hl], o, t⟩
  by_cases hi : i < ds.length
  · rw [List.getElem?_append_left (by rw [List.length_map]; exact hi), List.getElem?_map] at h
    rw [List.getElem?_eq_getElem hi] at h
    have h : ds[i] = d := by simpa using h
    obtain ⟨v, h1, h2⟩ := r.get (i := i) (d := d) (by rw [List.getElem?_eq_getElem hi, h])
    exact ⟨v, by rw [List.getElem?_append_left (by rw [List.length_map, hl]; exact hi), List.getElem?_map, h1] <;> rfl, h2⟩
  · rw [List.getElem?_append_right (by rw [List.length_map]; omega), List.getElem?_replicate] at h
    split at h <;> cases h
theorem body_end {B : Bs} {n ar : Nat} {fb : MS} {vs : List V} {H : Hp} {Q : VK} {E : XK} (h : spD B ar (runS n fb) vs H Q E) : tS B fb { nx := fun _ H' => Q .non H', rt := Q } (vs.map some ++ List.replicate (n - vs.length) none) H := by
  obtain ⟨S, O, L, ds, o, t, r, hl, h⟩ := h
  unfold runS at h
  rw [R.sat_bind] at h
  refine ⟨_, S, O, L, st_start o t r, R.sat_mono h fun fl S1 q => ?_⟩
  cases fl with
  | nx ρ =>
    have q : Post B O L H Q .non S1 := q
    exact fun σ' H' L' e st => q .non H' L' e .non st.sto st.tab
  | rt d =>
    have q : Post B O L H Q d S1 := q
    exact fun v H' L' e r' o' t' => q v H' L' e r' o' t'
  | bk ρ => exact q.elim
  | ct ρ => exact q.elim
theorem spD_len {B : Bs} {ar : Nat} {f : MF} {vs : List V} {H : Hp} {Q : VK} {E : XK} (h : spD B ar f vs H Q E) : vs.length = ar := by
  obtain ⟨S, O, L, ds, o, t, r, hl, _⟩ := h
  rw [r.length]
  exact hl
/-- a def of the text by its body -/
theorem fn_body {P : Program} {w : World} {B : Bs} {mg : Str → Option Value} {base : Heap} {k : Nat} {x qual : Str} {params : Arguments} {body : List Stmt} {scope : Scope} {dvs : List V} {kws : List (Str × V)} {f : Addr} {fd : FuncData} {N ps : List Str} {fb : MS}
    (F : FunD B.K x qual params body scope dvs kws f fd) (S : FnScope N ps scope)
    (hbody : ∀ (cdv : Value) (A : Around) (outer : List PySem.Env) (s : Shared) (H : Hp), Room k (A.deeper (envOfC qual scope s.heap.objs.size f cdv)) → PSs (cxOf CX0 P w B.K mg base N qual scope f cdv A outer s H E0).nox body (tS B fb)) :
    FnOk P w B.K mg base CX0 (k + 1) f fd ps (spD B ps.length (runS N.length fb)) := by
  refine F.ok S (fun vs H Q E h => spD_len h) fun cdv A outer s H vs Q E hr h => ⟨tS B fb, PSs.nox ?_, body_end h⟩
  exact hbody cdv A outer s H hr
/-- a nested def by its body -/
theorem fn_nested {P : Program} {w : World} {B : Bs} {mg : Str → Option Value} {base : Heap} {k j : Nat} {N ps : List Str} {fb : MS} {f c : Addr} (S : NScope N ps [] (B.cf j c).scope) (pl : plainArgs (B.cf j c).params ps = true) (nd : ps.Nodup)
    (hbody : ∀ (A : Around) (outer : List PySem.Env) (s : Shared) (H : Hp), Room k (A.deeper (envF (B.cf j c) f s.heap.objs.size)) → PSs (ncx CX0 P w B.K mg base N (B.cf j c) f A outer s H E0).nox (B.cf j c).body (tS B fb)) :
    NOk P w B.K mg base CX0 (k + 1) f (B.cf j c) ps [] (fun _ => spD B ps.length (runS N.length fb)) := by
  refine nok_of S (fun doc pm ctv us hl => ?_) (fun ws vs H Q E h => spD_len h) fun A outer s H vs ws Q E hr hf hc hw h => ⟨tS B fb, PSs.nox (hbody A outer s H hr), ?_⟩
  · have q := bind_perm (fd := (B.cf j c).fd doc pm ctv) (ks := []) (ws := []) pl rfl rfl (idPerm nd) hl rfl
    rw [List.append_nil, ← hl, pick_range] at q
    exact q
  · have hw : ws = [] := List.eq_nil_of_length_eq_zero (by simpa using hw)
    subst hw
    have q := body_end h
    unfold startF
    simpa using q

/-! ### ranges as lists, downwards -/
def rngS (tup : Bool) (nw : Bool) (fr : ML) : MD := fun ρ S => (fr ρ S).bind fun xs S1 => if tup then .ok (.tup xs) S1 else if nw then .ok (.loc S1.length) (S1 ++ [.lst xs]) else .ok (.lst xs) S1
end PD


set_option Elab.async false
set_option linter.all false
set_option maxRecDepth 100000
set_option maxHeartbeats 4000000
/-! PD11: comprehensions of two clauses. -/
namespace PD
open PySem PySem.Spec PyProof.Rows L2 LamX NdefX

def compL2 (vs1 : List Nat) (fg : ME) (ft : MB) (fi1 : ML) (fg1 : ME) (ft1 : MB) (fe : MD) : List D → Env → Sto → R (List D)
  | [], _, S => .ok [] S
  | d :: r, ρ, S => (fg d ρ S).bind fun ρ1 S1 => (ft ρ1 S1).bind fun b S2 => if b = true then (fi1 ρ1 S2).bind fun ds1 S3 => (compL fg1 ft1 fe ds1 (wipeE ρ1 vs1) S3).bind fun ys S4 => (compL2 vs1 fg ft fi1 fg1 ft1 fe r ρ S4).bind fun zs S5 => .ok (ys ++ zs) S5
    else compL2 vs1 fg ft fi1 fg1 ft1 fe r ρ S2
def compM2 (vs vs1 : List Nat) (fi : ML) (fg : ME) (ft : MB) (fi1 : ML) (fg1 : ME) (ft1 : MB) (fe : MD) : MD := fun ρ S => (fi ρ S).bind fun ds S1 => (compL2 vs1 fg ft fi1 fg1 ft1 fe ds (wipeE ρ vs) S1).bind fun ys S2 => guardR (decide (ys.length ≤ lim)) (.ok (.lst ys) S2)
section
variable {B : Bs} {O L0 L1 L L' : List Addr} {M H1 H H' : Hp} {p : Addr} {σ σ' : L2.St} {ρ ρ' : Env} {S S' : Sto} {acc : List V} {ys : List D} {y : V} {d : D}
/-- the same list, other slots -/
theorem InComp.slots (c : InComp B O L1 H1 p σ ρ L H S acc ys) (st : StOk B (p :: O) σ' H ρ' S L) : InComp B O L1 H1 p σ' ρ' L H S acc ys := ⟨st, c.pre, c.sta, c.obs, c.at_, c.np, c.rep⟩
theorem InComp.item2 {ds : List D} {J : It} {i : Nat} {x : V} {H3 : Hp} (c : InComp B O L1 H1 p σ ρ L H S acc ys) (w : WalkD B M L0 ds J) (hp : L0 <+: L) (hs : Sta M (hid (p :: O ++ L) H)) (hi : i < ds.length) (y : J.yld i H x H3) :
    ∃ d, ds[i]? = some d ∧ Ext (p :: O) L H L H3 ∧ StoOk B (p :: O) L H3 S ∧ TabsN B.tabs H3 ∧ Rep B L (hid (p :: O ++ L) H3) x d := by
  obtain ⟨d, hd, q⟩ := w.yld i H x H3 hi (hs.trans (hid_sta _ _)) y
  refine ⟨d, hd, ?_⟩
  rcases q with ⟨rfl, r⟩ | ⟨T, vs, es, rfl, rfl, hT, rfl, r⟩
  · exact ⟨Ext.refl _ _, c.st.sto, c.st.tab, Rep.mono hp hs d x r⟩
  · have f := c.st.sto.fresh hT
    refine ⟨Ext.new f hT, c.st.sto.new hT, TabsN.new c.st.tab hT, .tup (.inl (.inl (hid_of f upd_same))) ?_⟩
    exact (Reps.mono hp hs es vs r).ext (Ext.new f hT)
theorem sat_some {α : Type} {r : R α} {P : α → Sto → Prop} (h : r.sat P) : ∃ a S, P a S := by
  cases r with
  | ok a S => exact ⟨a, S, h⟩
  | exc x S => exact h.elim
  | bad => exact h.elim
theorem w_lc2 {vs vs1 : List Nat} {fi fi1 : ML} {fg fg1 : ME} {ft ft1 : MB} {fe : MD} {σ : L2.St} {H : Hp} {Q : VK} (h : tD B (compM2 vs vs1 fi fg ft fi1 fg1 ft1 fe) σ H Q) : tLc2 (tI B fi) (tGc B vs fg) (tT B ft) (tI B fi1) (tGc B vs1 fg1) (tT B ft1) (tD B fe) vs vs1 σ H Q := by
  obtain ⟨ρ, S, O, L, st, h⟩ := h
  unfold compM2 at h
  rw [R.sat_bind] at h
  refine ⟨ρ, S, O, L, st, R.sat_mono h fun ds S1 hp J H1 L1 e1 o1 t1 wd => ?_⟩
  rw [R.sat_bind] at hp
  have hp := R.sat_mono hp (fun ys S2 q => sat_guard.mp q)
  intro p hp0
  refine ⟨fun i m Hc => m = ds.length - i ∧ i ≤ ds.length ∧ ∃ L2 S2 acc ys, InComp B O L1 H1 p (wipe σ vs) (wipeE ρ vs) L2 Hc S2 acc ys ∧
    (compL2 vs1 fg ft fi1 fg1 ft1 fe (ds.drop i) (wipeE ρ vs) S2).sat fun zs S3 => decide ((ys ++ zs).length ≤ lim) = true ∧ Post B O L H Q (.lst (ys ++ zs)) S3, ⟨ds.length, by simp, Nat.zero_le _, L1, S1, [], [], InComp.start (Q := Q) st e1 o1 t1 vs hp0, hp⟩, ?_⟩
  rintro i m Hc ⟨rfl, hi, L2, S2, acc, ys, c, hs⟩
  by_cases hlt : i < ds.length
  · refine .inr ⟨wd.go i Hc hlt (c.sta.trans (hid_sta _ _)), fun H' => ∃ L2 S2 acc ys, InComp B O L1 H1 p (wipe σ vs) (wipeE ρ vs) L2 H' S2 acc ys ∧ (compL2 vs1 fg ft fi1 fg1 ft1 fe (ds.drop (i + 1)) (wipeE ρ vs) S2).sat fun zs S3 => decide ((ys ++ zs).length ≤ lim) = true ∧ Post B O L H Q (.lst (ys ++ zs)) S3, fun H' q => ⟨ds.length - (i + 1), by omega, rfl, hlt, q⟩, fun x H3 y => ?_⟩
    obtain ⟨d, hd, x3, o3, t3, r3⟩ := c.item2 wd c.pre c.sta hlt y
    have c3 := c.ext x3 o3 t3
    have ed : ds.drop i = d :: ds.drop (i + 1) := by
      rw [List.drop_eq_getElem_cons hlt]
      congr 1
      exact Option.some.inj ((List.getElem?_eq_getElem hlt).symm.trans hd)
    rw [ed] at hs
    unfold compL2 at hs
    rw [R.sat_bind] at hs
    refine ⟨wipeE ρ vs, S2, p :: O, L2, d, c3.st, r3, R.sat_mono hs fun ρ1 S4 hs σ4 H4 L4 e4 st4 w4 => ⟨w4.trans (wipe_wipe σ vs), ?_⟩⟩
    rw [R.sat_bind] at hs
    have c4 := c3.ext e4 st4.sto st4.tab
    refine ⟨ρ1, S4, p :: O, L4, st4, R.sat_mono hs fun b S5 hs H5 L5 e5 o5 t5 => ?_⟩
    have c5 := c4.ext e5 o5 t5
    have st5 := st4.ext e5 o5 t5
    cases b with
    | false =>
      simp only [Bool.false_eq_true, if_false] at hs ⊢
      exact ⟨L5, S5, acc, ys, c5, hs⟩
    | true =>
      simp only [if_true] at hs ⊢
      rw [R.sat_bind] at hs
      refine ⟨ρ1, S5, p :: O, L5, st5, R.sat_mono hs fun ds1 S6 hs J1 H6 L6 e6 o6 t6 wd1 => ?_⟩
      have c6 := c5.ext e6 o6 t6
      have st6 := st5.ext e6 o6 t6
      rw [R.sat_bind] at hs
      have hs := R.sat_mono hs (fun ys1 S7 q => R.sat_bind.mp q)
      refine ⟨fun j k Hc => k = ds1.length - j ∧ j ≤ ds1.length ∧ ∃ L7 S7 acc ys, InComp B O L1 H1 p (wipe σ vs) (wipeE ρ vs) L7 Hc S7 acc ys ∧ StOk B (p :: O) (wipe σ4 vs1) Hc (wipeE ρ1 vs1) S7 L7 ∧ L6 <+: L7 ∧ Sta (hid (p :: O ++ L6) H6) (hid (p :: O ++ L7) Hc) ∧
        (compL fg1 ft1 fe (ds1.drop j) (wipeE ρ1 vs1) S7).sat fun zs1 S8 => (compL2 vs1 fg ft fi1 fg1 ft1 fe (ds.drop (i + 1)) (wipeE ρ vs) S8).sat fun zs S9 => decide ((ys ++ (zs1 ++ zs)).length ≤ lim) = true ∧ Post B O L H Q (.lst (ys ++ (zs1 ++ zs))) S9,
        ⟨ds1.length, by simp, Nat.zero_le _, L6, S6, acc, ys, c6, st6.wipe vs1, List.prefix_refl _, ExtN.refl _, hs⟩, ?_⟩
      rintro j k Hd ⟨rfl, hj, L7, S7, acc, ys, c7, st7, p7, s7, hs⟩
      by_cases hlt1 : j < ds1.length
      · refine .inr ⟨wd1.go j Hd hlt1 (s7.trans (hid_sta _ _)), fun H' => ∃ L7 S7 acc ys, InComp B O L1 H1 p (wipe σ vs) (wipeE ρ vs) L7 H' S7 acc ys ∧ StOk B (p :: O) (wipe σ4 vs1) H' (wipeE ρ1 vs1) S7 L7 ∧ L6 <+: L7 ∧ Sta (hid (p :: O ++ L6) H6) (hid (p :: O ++ L7) H') ∧
          (compL fg1 ft1 fe (ds1.drop (j + 1)) (wipeE ρ1 vs1) S7).sat fun zs1 S8 => (compL2 vs1 fg ft fi1 fg1 ft1 fe (ds.drop (i + 1)) (wipeE ρ vs) S8).sat fun zs S9 => decide ((ys ++ (zs1 ++ zs)).length ≤ lim) = true ∧ Post B O L H Q (.lst (ys ++ (zs1 ++ zs))) S9,
          fun H' q => ⟨ds1.length - (j + 1), by omega, rfl, hlt1, q⟩, fun x1 H8 y1 => ?_⟩
        obtain ⟨d1, hd1, x8, o8, t8, r8⟩ := c7.item2 wd1 p7 s7 hlt1 y1
        have c8 := c7.ext x8 o8 t8
        have st8 := st7.ext x8 o8 t8
        have ed1 : ds1.drop j = d1 :: ds1.drop (j + 1) := by
          rw [List.drop_eq_getElem_cons hlt1]
          congr 1
          exact Option.some.inj ((List.getElem?_eq_getElem hlt1).symm.trans hd1)
        rw [ed1] at hs
        unfold compL at hs
        rw [R.sat_bind] at hs
        refine ⟨wipeE ρ1 vs1, S7, p :: O, L7, d1, st8, r8, R.sat_mono hs fun ρ9 S9 hs σ9 H9 L9 e9 st9 w9 => ⟨w9.trans (wipe_wipe σ4 vs1), ?_⟩⟩
        rw [R.sat_bind] at hs
        have c9 := c8.ext e9 st9.sto st9.tab
        have sto9 := st8.ext e9 st9.sto st9.tab
        refine ⟨ρ9, S9, p :: O, L9, st9, R.sat_mono hs fun b S10 hs H10 L10 e10 o10 t10 => ?_⟩
        have c10 := c9.ext e10 o10 t10
        have sto10 := sto9.ext e10 o10 t10
        cases b with
        | false =>
          simp only [Bool.false_eq_true, if_false] at hs ⊢
          exact ⟨L10, S10, acc, ys, c10, sto10, p7.trans ((x8.trans e9).trans e10).pre, s7.trans ((x8.trans e9).trans e10).sta, hs⟩
        | true =>
          simp only [if_true] at hs ⊢
          rw [R.sat_bind] at hs
          refine ⟨ρ9, S10, p :: O, L10, st9.ext e10 o10 t10, R.sat_mono hs fun z S11 hs v H11 L11 e11 r11 o11 t11 => ?_⟩
          have c11 := c10.ext e11 o11 t11
          have sto11 := sto10.ext e11 o11 t11
          rw [R.sat_bind] at hs
          have e := (((x8.trans e9).trans e10).trans e11)
          have hl := c11.rep.length
          obtain ⟨zs1, S12, q1⟩ := sat_some hs
          have q1 : (compL2 vs1 fg ft fi1 fg1 ft1 fe (ds.drop (i + 1)) (wipeE ρ vs) S12).sat fun zs S9 => decide ((ys ++ (z :: zs1 ++ zs)).length ≤ lim) = true ∧ Post B O L H Q (.lst (ys ++ (z :: zs1 ++ zs))) S9 := q1
          obtain ⟨zs2, S13, q2, _⟩ := sat_some q1
          have hz := of_decide_eq_true q2
          have hz2 : acc.length < sizeLine := by
            rw [sizeLine_eq]
            simp only [List.length_append, List.length_cons] at hz
            unfold lim at hz
            omega
          have hin : p ∈ p :: O ++ L11 := List.mem_append_left _ List.mem_cons_self
          have cp := c11.push r11
          refine ⟨acc, c11.at_, hz2, L11, S11, acc ++ [v], ys ++ [z], cp, ⟨fun i d h => ?_, sto11.len, cp.st.sto, cp.st.tab⟩, p7.trans e.pre, by rw [hid_in hin]; exact s7.trans e.sta, R.sat_mono hs fun zs S14 q => ?_⟩
          · rw [hid_in hin]
            exact sto11.env i d h
          · have q : R.sat _ _ := q
            refine R.sat_mono q fun zs2 S15 q => ?_
            rw [List.append_assoc]
            exact q
      · have e : j = ds1.length := by omega
        subst e
        rw [List.drop_length] at hs
        unfold compL at hs
        have hs : R.sat _ _ := hs
        exact .inl ⟨wd1.stop Hd (s7.trans (hid_sta _ _)), L7, S7, acc, ys, c7, R.sat_mono hs fun zs S9 q => by simpa using q⟩
  · have e : i = ds.length := by omega
    subst e
    rw [List.drop_length] at hs
    unfold compL2 at hs
    refine .inl ⟨wd.stop Hc (c.sta.trans (hid_sta _ _)), c.done e1 ?_⟩
    have hs : decide ((ys ++ []).length ≤ lim) = true ∧ Post B O L H Q (.lst (ys ++ [])) S2 := hs
    rw [List.append_nil] at hs
    exact hs.2
end
theorem de_comp2 {X : Cx} {B : Bs} {elt tg iter tg1 iter1 : Expr} {ifs ifs1 : List Expr} {scope : Scope} {own : List (Str × Nat)} {vs1 : List Nat} {pos : Pos} {fi fi1 : ML} {fg fg1 : ME} {ft ft1 : MB} {fe : MD} (hc : X.calm = true) (hN : X.N.Nodup) (hi : PI X tg iter (tI B fi)) (ok : BlkOk X.N X.env.scope scope own) (hv : ∀ i ∈ vs1, i ∈ own.map (·.2))
    (hg : ∀ (s : Shared) (H : Hp) (C : Addr) (cl : List (Str × Addr)) (fp : List Addr), PG (X.blk s H scope (compEnvC scope cl C X.env) fp) tg (tGc B (own.map (·.2)) fg))
    (ht : ∀ (s : Shared) (H : Hp) (C : Addr) (cl : List (Str × Addr)) (fp : List Addr), PTs (X.blk s H scope (compEnvC scope cl C X.env) fp) ifs (tT B ft))
    (hi1 : ∀ (s : Shared) (H : Hp) (C : Addr) (cl : List (Str × Addr)) (fp : List Addr), PI (X.blk s H scope (compEnvC scope cl C X.env) fp) tg1 iter1 (tI B fi1))
    (hg1 : ∀ (s : Shared) (H : Hp) (C : Addr) (cl : List (Str × Addr)) (fp : List Addr), PG (X.blk s H scope (compEnvC scope cl C X.env) fp) tg1 (tGc B vs1 fg1))
    (ht1 : ∀ (s : Shared) (H : Hp) (C : Addr) (cl : List (Str × Addr)) (fp : List Addr), PTs (X.blk s H scope (compEnvC scope cl C X.env) fp) ifs1 (tT B ft1))
    (he : ∀ (s : Shared) (H : Hp) (C : Addr) (cl : List (Str × Addr)) (fp : List Addr), PE (X.blk s H scope (compEnvC scope cl C X.env) fp) elt (tD B fe)) (hs : ∀ x, foldedSetIterable iter X.env x = pure x) (hs1 : ∀ env x, foldedSetIterable iter1 env x = pure x) :
    PE X (.ListComp elt [⟨tg, iter, ifs, 0⟩, ⟨tg1, iter1, ifs1, 0⟩] scope pos) (tD B (compM2 (own.map (·.2)) vs1 fi fg ft fi1 fg1 ft1 fe)) :=
  peW (pe_lc2 hc hN hi ok hv hg ht hi1 hg1 ht1 he hs hs1) fun _ _ _ h => w_lc2 h
theorem ds_setLc2 {X : Cx} {B : Bs} {i : Nat} {y : Str} {py spos : Pos} {elt tg iter tg1 iter1 : Expr} {ifs ifs1 : List Expr} {scope : Scope} {own : List (Str × Nat)} {vs1 : List Nat} {pos : Pos} {fi fi1 : ML} {fg fg1 : ME} {ft ft1 : MB} {fe : MD} (hc : X.calm = true) (hN : X.N.Nodup) (hy : X.N[i]? = some y) (hyl : X.env.scope.names.lookup y = some .local)
    (hsw : swapsWith (.ListComp elt [⟨tg, iter, ifs, 0⟩, ⟨tg1, iter1, ifs1, 0⟩] scope pos) (some (.Name y py)) spos.line X.env = pure true) (hi : PI X tg iter (tI B fi)) (ok : BlkOk X.N X.env.scope scope own) (hv : ∀ i ∈ vs1, i ∈ own.map (·.2))
    (hg : ∀ (s : Shared) (H : Hp) (C : Addr) (cl : List (Str × Addr)) (fp : List Addr), PG (X.blk s H scope (compEnvC scope cl C X.env) fp) tg (tGc B (own.map (·.2)) fg))
    (ht : ∀ (s : Shared) (H : Hp) (C : Addr) (cl : List (Str × Addr)) (fp : List Addr), PTs (X.blk s H scope (compEnvC scope cl C X.env) fp) ifs (tT B ft))
    (hi1 : ∀ (s : Shared) (H : Hp) (C : Addr) (cl : List (Str × Addr)) (fp : List Addr), PI (X.blk s H scope (compEnvC scope cl C X.env) fp) tg1 iter1 (tI B fi1))
    (hg1 : ∀ (s : Shared) (H : Hp) (C : Addr) (cl : List (Str × Addr)) (fp : List Addr), PG (X.blk s H scope (compEnvC scope cl C X.env) fp) tg1 (tGc B vs1 fg1))
    (ht1 : ∀ (s : Shared) (H : Hp) (C : Addr) (cl : List (Str × Addr)) (fp : List Addr), PTs (X.blk s H scope (compEnvC scope cl C X.env) fp) ifs1 (tT B ft1))
    (he : ∀ (s : Shared) (H : Hp) (C : Addr) (cl : List (Str × Addr)) (fp : List Addr), PE (X.blk s H scope (compEnvC scope cl C X.env) fp) elt (tD B fe)) (hs : ∀ x, foldedSetIterable iter X.env x = pure x) (hs1 : ∀ env x, foldedSetIterable iter1 env x = pure x) :
    PS X (.Assign [.Name y py] (.ListComp elt [⟨tg, iter, ifs, 0⟩, ⟨tg1, iter1, ifs1, 0⟩] scope pos) spos) (tS B (asgS (compM2 (own.map (·.2)) vs1 fi fg ft fi1 fg1 ft1 fe) (setE i))) :=
  psW (ps_setLc2 hc hN hy hyl hsw hi ok hv hg ht hi1 hg1 ht1 he hs hs1) fun _ _ _ h => w_lc2 (w_set h)
end PD


set_option Elab.async false
set_option linter.all false
set_option maxRecDepth 100000
set_option maxHeartbeats 4000000
/-! PD12: good contexts; every construct's rule there, its looks at the text as one Bool each. -/
namespace PD
open PySem PySem.Spec PyProof.Rows L2 LamX NdefX

structure Inf where
  name : Str
  ps : List Str
structure Text where
  fns : List Inf
  clos : List (List Str)
  free : List Str
  nums : List (Str × Int)
structure G0 where
  P : Program
  w : World
  B : Bs
  mg : Str → Option Value
  base : Heap
structure HeldD (G : G0) (k : Nat) (inf : Inf) (i : Nat) (f : MF) : Prop where
  mg : G.mg inf.name = some (.ref (G.B.fa i))
  kp : PySem.W.keepIn G.B.K (.ref (G.B.fa i)) = true
  nd : inf.ps.Nodup
  ok : ∃ (a : Arguments) (fd : FuncData), plainArgs a inf.ps = true ∧ fd.params = a ∧ fd.defaults = .none ∧ FnOk G.P G.w G.B.K G.mg G.base CX0 k (G.B.fa i) fd inf.ps (spD G.B inf.ps.length f)
/-- what a level knows -/
structure Tab (tx : Text) (G : G0) (k : Nat) (sem csem : Nat → MF) : Prop where
  free : ∀ x ∈ tx.free, G.mg x = none
  nums : ∀ p ∈ tx.nums, ∃ t, G.mg p.1 = some (.int p.2 t)
  fns : ∀ i inf, tx.fns[i]? = some inf → HeldD G k inf i (sem i)
  clos : ∀ j ps, tx.clos[j]? = some ps → (∀ c, (G.B.cf j c).cl = []) ∧ (∀ c, (G.B.cf j c).c = c) ∧ ∀ a c, NOk G.P G.w G.B.K G.mg G.base CX0 k a (G.B.cf j c) ps [] (fun _ => spD G.B ps.length (csem j))
structure Good (tx : Text) (G : G0) (k : Nat) (sem csem : Nat → MF) (N : List Str) (sc : Scope) (own : Str → Bool) (X : Cx) : Prop where
  tab : Tab tx G k sem csem
  prog : X.prog = G.P
  w : X.w = G.w
  K : X.K = G.B.K
  mg : X.mg = G.mg
  base : X.base = G.base
  calm : X.calm = true
  eN : X.N = N
  eS : X.env.scope = sc
  eO : X.fn = own
  room : Room k X.A
  xe : X.xe = fun _ _ => False
  nd : N.Nodup
  kind : sc.kind = .function
/-! ### looks -/
def lk (sc : Scope) (x : Str) (k : NameKind) : Bool := sc.names.lookup x == some k
def visB (N : List Str) (sc : Scope) (i : Nat) (x : Str) : Bool := (N[i]? == some x) && (lk sc x .local || lk sc x .cell || lk sc x .free) && noDunder x
def locB (N : List Str) (sc : Scope) (own : Str → Bool) (i : Nat) (x : Str) : Bool := (N[i]? == some x) && (lk sc x .local || lk sc x .cell) && (own x || lk sc x .local)
def gloB (sc : Scope) (x : Str) : Bool := lk sc x .globalImplicit && noDunder x
def freB (tx : Text) (sc : Scope) (x : Str) : Bool := gloB sc x && tx.free.contains x
def callB (tx : Text) (sc : Scope) (i n : Nat) (x : Str) : Bool := gloB sc x && match tx.fns[i]? with
  | some inf => (inf.name == x) && (inf.ps.length == n)
  | none => false
def noStars (es : List Expr) : Bool := es.all fun e => !isStar e
theorem lk_of {sc : Scope} {x : Str} {k : NameKind} (h : lk sc x k = true) : sc.names.lookup x = some k := by
  unfold lk at h
  exact eq_of_beq h
section
variable {tx : Text} {G : G0} {k : Nat} {sem csem : Nat → MF} {N : List Str} {sc : Scope} {own : Str → Bool} {X : Cx} {e a b c : Expr} {es : List Expr} {fa fb fc fe : MD} {fr fk : ML} {x : Str} {i j n : Nat} {p p2 pos pos2 apos cpos : Pos}
variable (g : Good tx G k sem csem N sc own X)
include g
theorem Good.hu : X.A.units + 66 < cLine := by
  have := g.room.un
  omega
theorem Good.gl (h : gloB sc x = true) : Gl X x ∧ noDunder x = true := by
  obtain ⟨h1, h2⟩ := and2 h
  exact ⟨by show X.env.scope.names.lookup x = _; rw [g.eS]; exact lk_of h1, h2⟩
theorem Good.fre (h : freB tx sc x = true) : Gl X x ∧ X.mg x = none ∧ noDunder x = true := by
  obtain ⟨h1, h2⟩ := and2 h
  obtain ⟨h3, h4⟩ := g.gl h1
  exact ⟨h3, by rw [g.mg]; exact g.tab.free x (by simpa using h2), h4⟩
theorem Good.def_ (h : callB tx sc i n x = true) : ∃ (ps : List Str) (a : Arguments), Def G.B X k x i ps a (sem i) ∧ ps.Nodup ∧ ps.length = n ∧ Gl X x ∧ noDunder x = true ∧ ∃ inf, tx.fns[i]? = some inf ∧ inf.ps = ps := by
  obtain ⟨h1, h2⟩ := and2 h
  obtain ⟨h3, h4⟩ := g.gl h1
  cases e : tx.fns[i]? with
  | none => rw [e] at h2; cases h2
  | some inf =>
    rw [e] at h2
    obtain ⟨h5, h6⟩ := and2 h2
    have h5 := eq_of_beq h5
    have h6 := eq_of_beq h6
    subst h5
    have D := g.tab.fns i inf e
    obtain ⟨a, fd, d1, d2, d3, d4⟩ := D.ok
    refine ⟨inf.ps, a, ⟨by rw [g.mg]; exact D.mg, by rw [g.K]; exact D.kp, d1, fd, d2, d3, ?_⟩, D.nd, h6, h3, h4, inf, rfl, rfl⟩
    rw [g.prog, g.w, g.K, g.mg, g.base]
    exact d4
/-! names, constants -/
theorem g_slot (h : visB N sc i x = true) : PE X (.Name x pos) (tD G.B (slotM i)) := by
  obtain ⟨h1, h2⟩ := and2 h
  obtain ⟨h3, h4⟩ := and2 h1
  obtain ⟨n1, n2, n3⟩ := noD1 h2
  refine de_slot (by rw [g.eN]; exact eq_of_beq h3) ?_ n2 n3
  show X.env.scope.names.lookup x = _ ∨ X.env.scope.names.lookup x = _ ∨ X.env.scope.names.lookup x = _
  rw [g.eS]
  rcases Bool.or_eq_true_iff.mp h4 with h | h
  · rcases Bool.or_eq_true_iff.mp h with h | h
    · exact .inl (lk_of h)
    · exact .inr (.inl (lk_of h))
  · exact .inr (.inr (lk_of h))
theorem g_globI {v : Int} (h : (gloB sc x && tx.nums.contains (x, v)) = true) : PE X (.Name x pos) (tD G.B (conM (.int v))) := by
  obtain ⟨h1, h2⟩ := and2 h
  obtain ⟨h3, h4⟩ := g.gl h1
  obtain ⟨n1, n2, n3⟩ := noD1 h4
  obtain ⟨t, ht⟩ := g.tab.nums (x, v) (by simpa using h2)
  exact de_globI h3 (by rw [g.mg]; exact ht) n2
theorem g_globF (h : callB tx sc i n x = true) : PE X (.Name x pos) (tD G.B (conM (.fn i))) := by
  obtain ⟨ps, a, d, nd, hl, hg, hx, _⟩ := g.def_ h
  exact de_globF hg d.mg (noD1 hx).2.1
/-! operators -/
theorem g_add (ha : PE X a (tD G.B fa)) (hb : PE X b (tD G.B fb)) : PE X (.BinOp a .Add b pos) (tD G.B (m2 fa fb addS)) := de_op op_addA (by rw [g.K]; exact s_add) ha hb
theorem g_sub (ha : PE X a (tD G.B fa)) (hb : PE X b (tD G.B fb)) : PE X (.BinOp a .Sub b pos) (tD G.B (m2 fa fb (intS fun i j => some (i - j)))) := de_op op_sub s_int0 ha hb
theorem g_mul (ha : PE X a (tD G.B fa)) (hb : PE X b (tD G.B fb)) : PE X (.BinOp a .Mult b pos) (tD G.B (m2 fa fb (intS gMul))) := de_op op_mul s_mul ha hb
theorem g_mod (ha : PE X a (tD G.B fa)) (hb : PE X b (tD G.B fb)) : PE X (.BinOp a .Mod b pos) (tD G.B (m2 fa fb (intS gMod))) := de_op op_mod s_mod ha hb
theorem g_div (ha : PE X a (tD G.B fa)) (hb : PE X b (tD G.B fb)) : PE X (.BinOp a .FloorDiv b pos) (tD G.B (m2 fa fb (intS gDiv))) := de_op op_fdiv s_div ha hb
theorem g_pow (ha : PE X a (tD G.B fa)) (hb : PE X b (tD G.B fb)) : PE X (.BinOp a .Pow b pos) (tD G.B (m2 fa fb (intS gPow))) := de_op op_pow s_pow ha hb
theorem g_neg (ha : PE X a (tD G.B fa)) : PE X (.UnaryOp .USub a pos) (tD G.B (m1 fa negS)) := de_un un_neg s_neg ha
theorem g_not (ha : PE X a (tD G.B fa)) : PE X (.UnaryOp .Not a pos) (tD G.B (notM fa)) := de_not g.K ha
theorem g_ix (ha : PE X a (tD G.B fa)) (hb : PE X b (tD G.B fb)) (hp : PlainIx b) : PE X (.Subscript a b pos) (tD G.B (m2 fa fb idxS)) := de_ix ix_A (by rw [g.K]; exact s_ix) ha hb hp
theorem g_slice {lo hi : Option Expr} {fl fh : MO'} (ha : PE X a (tD G.B fa)) (hl : PO X lo (tO G.B fl)) (hh : PO X hi (tO G.B fh)) : PE X (.Subscript a (.Slice lo hi none p2) pos) (tD G.B (sliceM fa fl fh)) := de_slice g.K ha hl hh
/-! comparisons: as a value, as a test -/
theorem g_eq (ha : PE X a (tD G.B fa)) (hb : PE X b (tD G.B fb)) (hm : behindInMarks .Eq b = false) : PE X (.Compare a [.Eq] [b] pos) (tD G.B (m2 fa fb (cmpS bothD eqD))) ∧ PT X (.Compare a [.Eq] [b] pos) (tT G.B (truM (m2 fa fb (cmpS bothD eqD)))) :=
  ⟨de_cmp (op_eqD (by have := g.hu; omega)) (by rw [g.K]; exact s_eq) ha hb hm, dt_cmp (op_eqD (by have := g.hu; omega)) (by rw [g.K]; exact s_eq) ha hb hm boolM_cmp⟩
theorem g_ne (ha : PE X a (tD G.B fa)) (hb : PE X b (tD G.B fb)) (hm : behindInMarks .NotEq b = false) : PE X (.Compare a [.NotEq] [b] pos) (tD G.B (m2 fa fb (cmpS bothD fun x y => !eqD x y))) ∧ PT X (.Compare a [.NotEq] [b] pos) (tT G.B (truM (m2 fa fb (cmpS bothD fun x y => !eqD x y)))) :=
  ⟨de_cmp (op_neD (by have := g.hu; omega)) (by rw [g.K]; exact s_ne) ha hb hm, dt_cmp (op_neD (by have := g.hu; omega)) (by rw [g.K]; exact s_ne) ha hb hm boolM_cmp⟩
abbrev ltS : D → D → Sto → R D := cmpS ordD fun x y => PySem.W.dataLt (D.toP dep x) (D.toP dep y)
abbrev gtS : D → D → Sto → R D := cmpS ordD fun x y => PySem.W.dataLt (D.toP dep y) (D.toP dep x)
abbrev leS : D → D → Sto → R D := cmpS ordD fun x y => !PySem.W.dataLt (D.toP dep y) (D.toP dep x)
abbrev geS : D → D → Sto → R D := cmpS ordD fun x y => !PySem.W.dataLt (D.toP dep x) (D.toP dep y)
theorem g_lt (ha : PE X a (tD G.B fa)) (hb : PE X b (tD G.B fb)) (hm : behindInMarks .Lt b = false) : PE X (.Compare a [.Lt] [b] pos) (tD G.B (m2 fa fb ltS)) ∧ PT X (.Compare a [.Lt] [b] pos) (tT G.B (truM (m2 fa fb ltS))) :=
  ⟨de_cmp (op_ltA (by have := g.hu; omega)) (by rw [g.K]; exact s_ord (g := fun d e => PySem.W.dataLt d e)) ha hb hm, dt_cmp (op_ltA (by have := g.hu; omega)) (by rw [g.K]; exact s_ord (g := fun d e => PySem.W.dataLt d e)) ha hb hm boolM_cmp⟩
theorem g_gt (ha : PE X a (tD G.B fa)) (hb : PE X b (tD G.B fb)) (hm : behindInMarks .Gt b = false) : PE X (.Compare a [.Gt] [b] pos) (tD G.B (m2 fa fb gtS)) ∧ PT X (.Compare a [.Gt] [b] pos) (tT G.B (truM (m2 fa fb gtS))) :=
  ⟨de_cmp (op_gtA (by have := g.hu; omega)) (by rw [g.K]; exact s_ord (g := fun d e => PySem.W.dataLt e d)) ha hb hm, dt_cmp (op_gtA (by have := g.hu; omega)) (by rw [g.K]; exact s_ord (g := fun d e => PySem.W.dataLt e d)) ha hb hm boolM_cmp⟩
theorem g_le (ha : PE X a (tD G.B fa)) (hb : PE X b (tD G.B fb)) (hm : behindInMarks .LtE b = false) : PE X (.Compare a [.LtE] [b] pos) (tD G.B (m2 fa fb leS)) ∧ PT X (.Compare a [.LtE] [b] pos) (tT G.B (truM (m2 fa fb leS))) :=
  ⟨de_cmp (op_leA (by have := g.hu; omega)) (by rw [g.K]; exact s_ord (g := fun d e => !PySem.W.dataLt e d)) ha hb hm, dt_cmp (op_leA (by have := g.hu; omega)) (by rw [g.K]; exact s_ord (g := fun d e => !PySem.W.dataLt e d)) ha hb hm boolM_cmp⟩
theorem g_ge (ha : PE X a (tD G.B fa)) (hb : PE X b (tD G.B fb)) (hm : behindInMarks .GtE b = false) : PE X (.Compare a [.GtE] [b] pos) (tD G.B (m2 fa fb geS)) ∧ PT X (.Compare a [.GtE] [b] pos) (tT G.B (truM (m2 fa fb geS))) :=
  ⟨de_cmp (op_geA (by have := g.hu; omega)) (by rw [g.K]; exact s_ord (g := fun d e => !PySem.W.dataLt d e)) ha hb hm, dt_cmp (op_geA (by have := g.hu; omega)) (by rw [g.K]; exact s_ord (g := fun d e => !PySem.W.dataLt d e)) ha hb hm boolM_cmp⟩
abbrev inS : D → D → Sto → R D := cmpS inOk fun x y => if false then !memD x y else memD x y
abbrev ninS : D → D → Sto → R D := cmpS inOk fun x y => if true then !memD x y else memD x y
theorem g_in (ha : PE X a (tD G.B fa)) (hb : PE X b (tD G.B fb)) (hm : behindInMarks .In b = false) : PE X (.Compare a [.In] [b] pos) (tD G.B (m2 fa fb inS)) ∧ PT X (.Compare a [.In] [b] pos) (tT G.B (truM (m2 fa fb inS))) :=
  ⟨de_cmp (op_inA (by have := g.hu; omega)) (by rw [g.K]; exact s_in false) ha hb hm, dt_cmp (op_inA (by have := g.hu; omega)) (by rw [g.K]; exact s_in false) ha hb hm boolM_cmp⟩
theorem g_nin (ha : PE X a (tD G.B fa)) (hb : PE X b (tD G.B fb)) (hm : behindInMarks .NotIn b = false) : PE X (.Compare a [.NotIn] [b] pos) (tD G.B (m2 fa fb ninS)) ∧ PT X (.Compare a [.NotIn] [b] pos) (tT G.B (truM (m2 fa fb ninS))) :=
  ⟨de_cmp (op_notInA (by have := g.hu; omega)) (by rw [g.K]; exact s_in true) ha hb hm, dt_cmp (op_notInA (by have := g.hu; omega)) (by rw [g.K]; exact s_in true) ha hb hm boolM_cmp⟩
theorem g_is (ha : PE X a (tD G.B fa)) (hb : PE X b (tD G.B fb)) (hm : behindInMarks .Is b = false) : PE X (.Compare a [.Is] [b] pos) (tD G.B (m2 fa fb (isNoneS false))) ∧ PT X (.Compare a [.Is] [b] pos) (tT G.B (truM (m2 fa fb (isNoneS false)))) :=
  ⟨de_cmp op_isN s_is ha hb hm, dt_cmp op_isN s_is ha hb hm boolM_is⟩
theorem g_isnot (ha : PE X a (tD G.B fa)) (hb : PE X b (tD G.B fb)) (hm : behindInMarks .IsNot b = false) : PE X (.Compare a [.IsNot] [b] pos) (tD G.B (m2 fa fb (isNoneS true))) ∧ PT X (.Compare a [.IsNot] [b] pos) (tT G.B (truM (m2 fa fb (isNoneS true)))) :=
  ⟨de_cmp op_notN s_isnot ha hb hm, dt_cmp op_notN s_isnot ha hb hm boolM_is⟩
theorem g_and {rest : List Expr} (ha : PE X a (tD G.B fa)) (hb : PE X (.BoolOp .And (b :: rest) pos) (tD G.B fb)) : PE X (.BoolOp .And (a :: b :: rest) pos) (tD G.B (boolM true fa fb)) := de_and g.K ha hb
theorem g_or {rest : List Expr} (ha : PE X a (tD G.B fa)) (hb : PE X (.BoolOp .Or (b :: rest) pos) (tD G.B fb)) : PE X (.BoolOp .Or (a :: b :: rest) pos) (tD G.B (boolM false fa fb)) := de_or g.K ha hb
theorem g_plain (ha : PE X a (tD G.B fa)) (he : ∀ env whole, isTrue a env whole = (do let v ← whole; standAt a.pos; holding [v] (truthy v))) : PT X a (tT G.B (truM fa)) := dt_plain g.K ha (he _)
/-! arguments -/
omit g in
theorem ga_cons (ha : PE X e (tD G.B fa)) (hr : PA X es (tA G.B fr)) (hs : isStar e = false) : PA X (e :: es) (tA G.B (consL fa fr)) := da_cons ha hr (starEach_cons hs)
theorem ga_star (ha : PE X e (tD G.B fa)) (hr : PA X es (tA G.B fr)) : PA X (.Starred e p :: es) (tA G.B (starL fa fr)) := da_star g.K ha hr
/-! built-ins -/
theorem g_len (h : freB tx sc "len" = true) (ha : PA X [e] (tA G.B fr)) (hs : noStars [e] = true) : PE X (.Call (.Name "len" p) [e] [] pos) (tD G.B (mL fr lenS)) := by
  obtain ⟨h1, h2, h3⟩ := g.fre h
  exact de_callB call_len (by rw [g.K]; exact s_len) h1 h2 (by rfl) ha h3 hs
theorem g_abs (h : freB tx sc "abs" = true) (ha : PA X [e] (tA G.B fr)) (hs : noStars [e] = true) : PE X (.Call (.Name "abs" p) [e] [] pos) (tD G.B (mL fr absS)) := by
  obtain ⟨h1, h2, h3⟩ := g.fre h
  exact de_callB call_abs s_abs h1 h2 (by rfl) ha h3 hs
theorem g_divmod (h : freB tx sc "divmod" = true) (ha : PA X [a, b] (tA G.B fr)) (hs : noStars [a, b] = true) : PE X (.Call (.Name "divmod" p) [a, b] [] pos) (tD G.B (mL fr divmodS)) := by
  obtain ⟨h1, h2, h3⟩ := g.fre h
  exact de_callB call_divmod s_divmod h1 h2 (by rfl) ha h3 hs
theorem g_sum (h : freB tx sc "sum" = true) (ha : PA X [e] (tA G.B fr)) (hs : noStars [e] = true) : PE X (.Call (.Name "sum" p) [e] [] pos) (tD G.B (mL fr sumS)) := by
  obtain ⟨h1, h2, h3⟩ := g.fre h
  exact de_callB (cr_sum g.calm) (by rw [g.K]; exact s_sum) h1 h2 (by rfl) ha h3 hs
theorem g_all (h : freB tx sc "all" = true) (ha : PA X [e] (tA G.B fr)) (hs : noStars [e] = true) : PE X (.Call (.Name "all" p) [e] [] pos) (tD G.B (mL fr (allS false))) := by
  obtain ⟨h1, h2, h3⟩ := g.fre h
  exact de_callB (cr_all g.calm) (by rw [g.K]; exact s_all) h1 h2 (by rfl) ha h3 hs
theorem g_any (h : freB tx sc "any" = true) (ha : PA X [e] (tA G.B fr)) (hs : noStars [e] = true) : PE X (.Call (.Name "any" p) [e] [] pos) (tD G.B (mL fr (allS true))) := by
  obtain ⟨h1, h2, h3⟩ := g.fre h
  exact de_callB (cr_any g.calm) (by rw [g.K]; exact s_any) h1 h2 (by rfl) ha h3 hs
theorem g_min (h : freB tx sc "min" = true) (ha : PA X (e :: es) (tA G.B fr)) (hs : noStars (e :: es) = true) : PE X (.Call (.Name "min" p) (e :: es) [] pos) (tD G.B (mL fr (minS false))) := by
  obtain ⟨h1, h2, h3⟩ := g.fre h
  exact de_callB (cr_minA g.calm g.hu) (by rw [g.K]; exact s_min false) h1 h2 (by rfl) ha h3 hs
theorem g_max (h : freB tx sc "max" = true) (ha : PA X (e :: es) (tA G.B fr)) (hs : noStars (e :: es) = true) : PE X (.Call (.Name "max" p) (e :: es) [] pos) (tD G.B (mL fr (minS true))) := by
  obtain ⟨h1, h2, h3⟩ := g.fre h
  exact de_callB (cr_maxA g.calm g.hu) (by rw [g.K]; exact s_min true) h1 h2 (by rfl) ha h3 hs
theorem g_sorted (h : freB tx sc "sorted" = true) (ha : PA X [e] (tA G.B fr)) (hs : noStars [e] = true) : PE X (.Call (.Name "sorted" p) [e] [] pos) (tD G.B (mL fr sortedS)) := by
  obtain ⟨h1, h2, h3⟩ := g.fre h
  exact de_callB (cr_sortedD g.K g.hu) s_sorted h1 h2 (by rfl) ha h3 hs
theorem g_int1 (h : freB tx sc "int" = true) (ha : PA X [e] (tA G.B fr)) (hs : noStars [e] = true) : PE X (.Call (.Name "int" p) [e] [] pos) (tD G.B (mL fr intS1)) := by
  obtain ⟨h1, h2, h3⟩ := g.fre h
  exact de_callTy call_int1 s_int1 h1 h2 (by rfl) ha h3 hs
theorem g_tuple (h : freB tx sc "tuple" = true) (ha : PA X [e] (tA G.B fr)) (hs : noStars [e] = true) : PE X (.Call (.Name "tuple" p) [e] [] pos) (tD G.B (mL fr tupleS)) := by
  obtain ⟨h1, h2, h3⟩ := g.fre h
  exact de_callTy call_tuple_of (by rw [g.K]; exact s_tuple) h1 h2 (by rfl) ha h3 hs
theorem g_list (h : freB tx sc "list" = true) (ha : PA X [e] (tA G.B fr)) (hs : noStars [e] = true) : PE X (.Call (.Name "list" p) [e] [] pos) (tD G.B (mL fr listS)) := by
  obtain ⟨h1, h2, h3⟩ := g.fre h
  exact de_callTy call_list_of (by rw [g.K]; exact s_list) h1 h2 (by rfl) ha h3 hs
theorem g_isi {T : String} (hT : T ∈ ["int", "bool", "tuple", "list", "str"]) (h : freB tx sc "isinstance" = true) (h2 : freB tx sc (Str.ofString T) = true) (ha : PE X e (tD G.B fa)) (hs : isStar e = false) : PE X (.Call (.Name "isinstance" p) [e, .Name (Str.ofString T) p2] [] pos) (tD G.B (isiM T fa)) := by
  obtain ⟨h1, h3, h4⟩ := g.fre h
  obtain ⟨h5, h6, h7⟩ := g.fre h2
  exact de_isi g.K hT h1 h3 h5 h6 ha hs
/-! calls of defs -/
theorem g_call (h : callB tx sc i n x = true) (ha : PA X (e :: es) (tA G.B fr)) (hs : noStars (e :: es) = true) : PE X (.Call (.Name x p) (e :: es) [] pos) (tD G.B (mL fr (callS (sem i) n))) := by
  obtain ⟨ps, a, d, nd, hl, hg, hx, _⟩ := g.def_ h
  subst hl
  exact de_call d nd g.room hg ha hx hs
theorem g_call0 (h : callB tx sc i n x = true) : PE X (.Call (.Name x p) [] [] pos) (tD G.B (mL nilL (callS (sem i) n))) := by
  obtain ⟨ps, a, d, nd, hl, hg, hx, _⟩ := g.def_ h
  subst hl
  exact de_call0 d nd g.room hg hx
def kwB (tx : Text) (i n : Nat) (kws : List Keyword) (pm : List Nat) : Bool := kws.all (·.arg.isSome) && match tx.fns[i]? with
  | some inf => permOk inf.ps (kwNames kws) n pm
  | none => false
/-- the lists of arguments have the lengths of their texts -/
def lenL (f : ML) (n : Nat) : Prop := ∀ ρ S xs S1, f ρ S = .ok xs S1 → xs.length = n
omit g in
theorem lenL_nil : lenL nilL 0 := fun ρ S xs S1 e => by cases e; rfl
omit g in
theorem lenL_cons (h : lenL fr n) : lenL (consL fa fr) (n + 1) := fun ρ S xs S1 e => by
  obtain ⟨y, S2, _, e⟩ := bind_ok_inv e
  obtain ⟨ys, S3, e2, e⟩ := bind_ok_inv e
  cases e
  exact congrArg (· + 1) (h _ _ _ _ e2)
theorem g_callK {kws : List Keyword} {pm : List Nat} (h : callB tx sc i n x = true) (ha : PA X (e :: es) (tA G.B fr)) (hkw : PK X kws (tA G.B fk)) (hs : noStars (e :: es) = true) (hk : kwB tx i (e :: es).length kws pm = true) (hn : lenL fr (e :: es).length) (hm : lenL fk (kwNames kws).length) :
    PE X (.Call (.Name x p) (e :: es) kws pos) (tD G.B (callK (sem i) n pm fr fk)) := by
  obtain ⟨ps, a, d, nd, hl, hg, hx, inf, hi, hp⟩ := g.def_ h
  obtain ⟨k1, k2⟩ := and2 hk
  rw [hi] at k2
  have k2 : permOk inf.ps (kwNames kws) (e :: es).length pm = true := k2
  rw [hp] at k2
  subst hl
  exact de_callK d g.room hg ha hkw hx hs k1 k2 hn hm
theorem g_callK0 {kws : List Keyword} {pm : List Nat} (h : callB tx sc i n x = true) (hkw : PK X kws (tA G.B fk)) (hk : kwB tx i 0 kws pm = true) (hm : lenL fk (kwNames kws).length) :
    PE X (.Call (.Name x p) [] kws pos) (tD G.B (callK (sem i) n pm nilL fk)) := by
  obtain ⟨ps, a, d, nd, hl, hg, hx, inf, hi, hp⟩ := g.def_ h
  obtain ⟨k1, k2⟩ := and2 hk
  rw [hi] at k2
  have k2 : permOk inf.ps (kwNames kws) 0 pm = true := k2
  rw [hp] at k2
  subst hl
  exact de_callK0 d g.room hg hkw hx k1 k2 hm
/-- what may be called by a name that holds it -/
def heldF (tx : Text) (sem : Nat → MF) (j : Nat) : Option (Nat × MF) := (tx.fns[j]?).map fun inf => (inf.ps.length, sem j)
def heldC (tx : Text) (csem : Nat → MF) (j : Nat) : Option (Nat × MF) := (tx.clos[j]?).map fun ps => (ps.length, csem j)
theorem g_callV (h : visB N sc i x = true) (ha : PA X (e :: es) (tA G.B fr)) (hs : noStars (e :: es) = true) : PE X (.Call (.Name x p) (e :: es) [] pos) (tD G.B (callV (heldF tx sem) (heldC tx csem) i fr)) := by
  obtain ⟨h1, h2⟩ := and2 h
  obtain ⟨h3, h4⟩ := and2 h1
  refine de_callV (k := k) (fun j ar f q => ?_) (fun j ar f q => ?_) g.room (by rw [g.eN]; exact eq_of_beq h3) ?_ h2 ha hs
  · obtain ⟨inf, e1, e2⟩ := Option.map_eq_some_iff.mp q
    cases e2
    have D := g.tab.fns j inf e1
    obtain ⟨a, fd, d1, d2, d3, d4⟩ := D.ok
    refine ⟨by rw [g.K]; exact D.kp, fd, inf.ps, rfl, ?_, ?_⟩
    · rw [g.prog, g.w, g.K, g.mg, g.base]
      exact d4
    · exact binds_plain d1 d2 d3 D.nd
  · obtain ⟨ps, e1, e2⟩ := Option.map_eq_some_iff.mp q
    cases e2
    obtain ⟨c1, c2, c3⟩ := g.tab.clos j ps e1
    refine ⟨c1, c2, ps, rfl, ?_⟩
    rw [g.prog, g.w, g.K, g.mg, g.base]
    exact c3
  · show X.env.scope.names.lookup x = _ ∨ X.env.scope.names.lookup x = _ ∨ X.env.scope.names.lookup x = _
    rw [g.eS]
    rcases Bool.or_eq_true_iff.mp h4 with h | h
    · rcases Bool.or_eq_true_iff.mp h with h | h
      · exact .inl (lk_of h)
      · exact .inr (.inl (lk_of h))
    · exact .inr (.inr (lk_of h))
/-! targets -/
theorem g_name (h : locB N sc own i x = true) : PG X (.Name x pos) (tG G.B (setE i)) := by
  obtain ⟨h1, h2⟩ := and2 h
  obtain ⟨h3, h4⟩ := and2 h1
  refine dg_name (by rw [g.eN]; exact g.nd) (by rw [g.eN]; exact eq_of_beq h3) ?_ ?_
  · show X.env.scope.names.lookup x = _ ∨ X.env.scope.names.lookup x = _
    rw [g.eS]
    exact (Bool.or_eq_true_iff.mp h4).imp lk_of lk_of
  · rw [g.eO, g.eS]
    exact (Bool.or_eq_true_iff.mp h2).imp id lk_of
theorem g_tupT {kk : Nat} {gg : MEs} (h : PGs X es (tGs G.B gg)) (hs : noStars es = true) : PG X (.Tuple es kk pos) (tG G.B (tupE es.length gg)) := dg_tup g.calm g.K h hs
theorem gc_name {vs : List Nat} (h : (locB N sc own i x && vs.contains i) = true) : PG X (.Name x pos) (tGc G.B vs (setE i)) := by
  obtain ⟨h, hv⟩ := and2 h
  obtain ⟨h1, h2⟩ := and2 h
  obtain ⟨h3, h4⟩ := and2 h1
  refine dc_name (by rw [g.eN]; exact g.nd) (by rw [g.eN]; exact eq_of_beq h3) ?_ ?_ (by simpa using hv)
  · show X.env.scope.names.lookup x = _ ∨ X.env.scope.names.lookup x = _
    rw [g.eS]
    exact (Bool.or_eq_true_iff.mp h4).imp lk_of lk_of
  · rw [g.eO, g.eS]
    exact (Bool.or_eq_true_iff.mp h2).imp id lk_of
theorem gc_tup {vs : List Nat} {kk : Nat} {gg : MEs} (h : PGs X es (tGsc G.B vs gg)) (hs : noStars es = true) : PG X (.Tuple es kk pos) (tGc G.B vs (tupE es.length gg)) := dc_tup g.calm g.K h hs
/-! what is walked -/
theorem gi_seq {tg : Expr} (ha : PE X e (tD G.B fa)) : PI X tg e (tI G.B (seqI fa)) := di_seq g.K ha
theorem gi_rng1 {tg : Expr} (h : freB tx sc "range" = true) (ha : PA X [a] (tA G.B fr)) (hs : isStar a = false) : PI X tg (.Call (.Name "range" p) [a] [] pos) (tI G.B (rng1 fr)) := by
  obtain ⟨h1, h2, h3⟩ := g.fre h
  exact di_rng1 h1 h2 ha hs
theorem gi_rng2 {tg : Expr} (h : freB tx sc "range" = true) (ha : PA X [a, b] (tA G.B fr)) (hs : isStar a = false) (hs2 : isStar b = false) : PI X tg (.Call (.Name "range" p) [a, b] [] pos) (tI G.B (rng2 fr)) := by
  obtain ⟨h1, h2, h3⟩ := g.fre h
  exact di_rng2 h1 h2 ha hs hs2
theorem gi_enum {els : List Expr} {kk : Nat} (h : freB tx sc "enumerate" = true) (ha : PA X [e] (tA G.B fr)) (hs : isStar e = false) : PI X (.Tuple els kk pos2) (.Call (.Name "enumerate" p) [e] [] pos) (tI G.B (enumI fr)) := by
  obtain ⟨h1, h2, h3⟩ := g.fre h
  exact di_enum g.K h1 h2 ha hs
/-! blocks -/
def relS (sc0 scope : Scope) : Scope := { scope with names := scope.names.map fun (n, k) => if (k == .free && sc0.kind == .function && sc0.names.lookup n == some .cell) then (n, .cell) else (n, k) }
theorem Good.blk {s : Shared} {H : Hp} {C : Addr} {cl : List (Str × Addr)} {fp : List Addr} {scope : Scope} (hk : scope.kind = .function) : Good tx G k sem csem N (relS sc scope) (fun x => scope.names.lookup x == some .cell) (X.blk s H scope (compEnvC scope cl C X.env) fp) :=
  ⟨g.tab, g.prog, g.w, g.K, g.mg, g.base, g.calm, g.eN, by show relabel scope X.env = _; unfold relabel relS Env.kindOf; rw [g.eS], rfl, g.room, rfl, g.nd, hk⟩
def blkB (N : List Str) (sc scope : Scope) (own : List (Str × Nat)) : Bool := decide (scope.kind = .function) && scope.names.all (fun y => scope.names.lookup y.1 == some y.2) && own.all (fun p => N[p.2]? == some p.1) &&
  scope.names.all (fun y => !decide (y.2 = .free) || lk sc y.1 .cell || lk sc y.1 .free) && scope.names.all (fun y => !(decide (y.2 = .local) || decide (y.2 = .cell)) || (own.map (·.1)).contains y.1 || !N.contains y.1)
theorem Good.blkOk {scope : Scope} {ow : List (Str × Nat)} (h : blkB N sc scope ow = true) : BlkOk X.N X.env.scope scope ow := by
  unfold blkB at h
  simp only [Bool.and_eq_true, decide_eq_true_eq, List.all_eq_true] at h
  obtain ⟨⟨⟨⟨h1, h2⟩, h3⟩, h4⟩, h5⟩ := h
  rw [g.eN, g.eS]
  refine ⟨h1, fun y hy => eq_of_beq (h2 y hy), fun p hp => eq_of_beq (h3 p hp), fun y hy e => ?_, fun y hy e => ?_⟩
  · have q := h4 y hy
    rw [Bool.or_eq_true, Bool.or_eq_true, Bool.not_eq_true'] at q
    rcases q with (q | q) | q
    · rw [e] at q; simp at q
    · exact .inl (lk_of q)
    · exact .inr (lk_of q)
  · have q := h5 y hy
    rw [Bool.or_eq_true, Bool.or_eq_true, Bool.not_eq_true'] at q
    rcases q with (q | q) | q
    · rcases e with e | e <;> (rw [e] at q; simp at q)
    · exact .inl (by simpa using q)
    · exact .inr (by simpa using q)
end
end PD


set_option Elab.async false
set_option linter.all false
set_option maxRecDepth 100000
set_option maxHeartbeats 4000000
/-! PD13: comprehensions and statements in good contexts; all levels of a text. -/
namespace PD
open PySem PySem.Spec PyProof.Rows L2 LamX NdefX

section
variable {tx : Text} {G : G0} {k : Nat} {sem csem : Nat → MF} {N : List Str} {sc : Scope} {own : Str → Bool} {X : Cx} {e a b c : Expr} {es : List Expr} {fa fb fc fe : MD} {fr fk : ML} {x y z : Str} {i j n l : Nat} {p p2 pos pos2 apos cpos py px pz pt spos : Pos}
variable (g : Good tx G k sem csem N sc own X)
include g
/-! comprehensions -/
abbrev blkO (scope : Scope) : Str → Bool := fun x => scope.names.lookup x == some .cell
theorem blkK {scope : Scope} {ow : List (Str × Nat)} (h : blkB N sc scope ow = true) : scope.kind = .function := by
  unfold blkB at h
  simp only [Bool.and_eq_true, decide_eq_true_eq] at h
  exact h.1.1.1.1
theorem g_comp {elt tg iter : Expr} {ifs : List Expr} {scope : Scope} {ow : List (Str × Nat)} {fi : ML} {fg : ME} {ft : MB} (h : blkB N sc scope ow = true) (hi : PI X tg iter (tI G.B fi))
    (hg : ∀ X', Good tx G k sem csem N (relS sc scope) (blkO scope) X' → PG X' tg (tGc G.B (ow.map (·.2)) fg))
    (ht : ∀ X', Good tx G k sem csem N (relS sc scope) (blkO scope) X' → PTs X' ifs (tT G.B ft))
    (he : ∀ X', Good tx G k sem csem N (relS sc scope) (blkO scope) X' → PE X' elt (tD G.B fe)) (hs : ∀ env x, foldedSetIterable iter env x = pure x) :
    PE X (.ListComp elt [⟨tg, iter, ifs, 0⟩] scope pos) (tD G.B (compM (ow.map (·.2)) fi fg ft fe)) :=
  de_comp g.calm (by rw [g.eN]; exact g.nd) hi (g.blkOk h) (fun _ _ _ _ _ => hg _ (g.blk (blkK g h))) (fun _ _ _ _ _ => ht _ (g.blk (blkK g h))) (fun _ _ _ _ _ => he _ (g.blk (blkK g h))) (hs _)
theorem g_comp2 {elt tg iter tg1 iter1 : Expr} {ifs ifs1 : List Expr} {scope : Scope} {ow : List (Str × Nat)} {vs1 : List Nat} {fi fi1 : ML} {fg fg1 : ME} {ft ft1 : MB} (h : (blkB N sc scope ow && vs1.all fun i => (ow.map (·.2)).contains i) = true) (hi : PI X tg iter (tI G.B fi))
    (hg : ∀ X', Good tx G k sem csem N (relS sc scope) (blkO scope) X' → PG X' tg (tGc G.B (ow.map (·.2)) fg))
    (ht : ∀ X', Good tx G k sem csem N (relS sc scope) (blkO scope) X' → PTs X' ifs (tT G.B ft))
    (hi1 : ∀ X', Good tx G k sem csem N (relS sc scope) (blkO scope) X' → PI X' tg1 iter1 (tI G.B fi1))
    (hg1 : ∀ X', Good tx G k sem csem N (relS sc scope) (blkO scope) X' → PG X' tg1 (tGc G.B vs1 fg1))
    (ht1 : ∀ X', Good tx G k sem csem N (relS sc scope) (blkO scope) X' → PTs X' ifs1 (tT G.B ft1))
    (he : ∀ X', Good tx G k sem csem N (relS sc scope) (blkO scope) X' → PE X' elt (tD G.B fe)) (hs : ∀ env x, foldedSetIterable iter env x = pure x) (hs1 : ∀ env x, foldedSetIterable iter1 env x = pure x) :
    PE X (.ListComp elt [⟨tg, iter, ifs, 0⟩, ⟨tg1, iter1, ifs1, 0⟩] scope pos) (tD G.B (compM2 (ow.map (·.2)) vs1 fi fg ft fi1 fg1 ft1 fe)) := by
  obtain ⟨h, hv⟩ := and2 h
  refine de_comp2 g.calm (by rw [g.eN]; exact g.nd) hi (g.blkOk h) (fun i hi => ?_) (fun _ _ _ _ _ => hg _ (g.blk (blkK g h))) (fun _ _ _ _ _ => ht _ (g.blk (blkK g h))) (fun _ _ _ _ _ => hi1 _ (g.blk (blkK g h))) (fun _ _ _ _ _ => hg1 _ (g.blk (blkK g h))) (fun _ _ _ _ _ => ht1 _ (g.blk (blkK g h))) (fun _ _ _ _ _ => he _ (g.blk (blkK g h))) (hs _) hs1
  rw [List.all_eq_true] at hv
  simpa using hv i hi
/-! assignments -/
theorem Good.bk : X.env.blockKind = .function := by
  unfold Env.blockKind
  rw [g.eS, g.kind]
  rfl
def swapB (sc : Scope) (y : Str) (py pos : Pos) (scope : Scope) : Bool := lk sc y .local && (py.line == pos.line) && !(scope.names.any fun (n, k) => n == y && (k == .local || k == .cell))
theorem Good.swaps {elt : Expr} {gens : List Comprehension} {scope : Scope} {line : Nat} : swapsWith (.ListComp elt gens scope pos) (some (.Name y py)) line X.env = pure (swapB sc y py pos scope) := by
  have e : X.env.kindOf y = sc.names.lookup y := by
    show X.env.scope.names.lookup y = _
    rw [g.eS]
  unfold swapsWith swapB lk
  simp only [pure_bind, g.bk, e]
  rfl
theorem g_setLc {elt tg iter : Expr} {ifs : List Expr} {scope : Scope} {ow : List (Str × Nat)} {fi : ML} {fg : ME} {ft : MB} (hsw : ((N[i]? == some y) && swapB sc y py pos scope) = true) (h : blkB N sc scope ow = true) (hi : PI X tg iter (tI G.B fi))
    (hg : ∀ X', Good tx G k sem csem N (relS sc scope) (blkO scope) X' → PG X' tg (tGc G.B (ow.map (·.2)) fg))
    (ht : ∀ X', Good tx G k sem csem N (relS sc scope) (blkO scope) X' → PTs X' ifs (tT G.B ft))
    (he : ∀ X', Good tx G k sem csem N (relS sc scope) (blkO scope) X' → PE X' elt (tD G.B fe)) (hs : ∀ env x, foldedSetIterable iter env x = pure x) :
    PS X (.Assign [.Name y py] (.ListComp elt [⟨tg, iter, ifs, 0⟩] scope pos) spos) (tS G.B (asgS (compM (ow.map (·.2)) fi fg ft fe) (setE i))) := by
  obtain ⟨h1, h2⟩ := and2 hsw
  have h3 := (and2 (and2 h2).1).1
  refine ds_setLc g.calm (by rw [g.eN]; exact g.nd) (by rw [g.eN]; exact eq_of_beq h1) (by rw [g.eS]; exact lk_of h3) (by rw [g.swaps, h2]) hi (g.blkOk h) (fun _ _ _ _ _ => hg _ (g.blk (blkK g h))) (fun _ _ _ _ _ => ht _ (g.blk (blkK g h))) (fun _ _ _ _ _ => he _ (g.blk (blkK g h))) (hs _)
theorem g_setLc2 {elt tg iter tg1 iter1 : Expr} {ifs ifs1 : List Expr} {scope : Scope} {ow : List (Str × Nat)} {vs1 : List Nat} {fi fi1 : ML} {fg fg1 : ME} {ft ft1 : MB} (hsw : ((N[i]? == some y) && swapB sc y py pos scope) = true) (h : (blkB N sc scope ow && vs1.all fun i => (ow.map (·.2)).contains i) = true) (hi : PI X tg iter (tI G.B fi))
    (hg : ∀ X', Good tx G k sem csem N (relS sc scope) (blkO scope) X' → PG X' tg (tGc G.B (ow.map (·.2)) fg))
    (ht : ∀ X', Good tx G k sem csem N (relS sc scope) (blkO scope) X' → PTs X' ifs (tT G.B ft))
    (hi1 : ∀ X', Good tx G k sem csem N (relS sc scope) (blkO scope) X' → PI X' tg1 iter1 (tI G.B fi1))
    (hg1 : ∀ X', Good tx G k sem csem N (relS sc scope) (blkO scope) X' → PG X' tg1 (tGc G.B vs1 fg1))
    (ht1 : ∀ X', Good tx G k sem csem N (relS sc scope) (blkO scope) X' → PTs X' ifs1 (tT G.B ft1))
    (he : ∀ X', Good tx G k sem csem N (relS sc scope) (blkO scope) X' → PE X' elt (tD G.B fe)) (hs : ∀ env x, foldedSetIterable iter env x = pure x) (hs1 : ∀ env x, foldedSetIterable iter1 env x = pure x) :
    PS X (.Assign [.Name y py] (.ListComp elt [⟨tg, iter, ifs, 0⟩, ⟨tg1, iter1, ifs1, 0⟩] scope pos) spos) (tS G.B (asgS (compM2 (ow.map (·.2)) vs1 fi fg ft fi1 fg1 ft1 fe) (setE i))) := by
  obtain ⟨h, hv⟩ := and2 h
  obtain ⟨h1, h2⟩ := and2 hsw
  have h3 := (and2 (and2 h2).1).1
  refine ds_setLc2 g.calm (by rw [g.eN]; exact g.nd) (by rw [g.eN]; exact eq_of_beq h1) (by rw [g.eS]; exact lk_of h3) (by rw [g.swaps, h2]) hi (g.blkOk h) (fun i hi => ?_) (fun _ _ _ _ _ => hg _ (g.blk (blkK g h))) (fun _ _ _ _ _ => ht _ (g.blk (blkK g h))) (fun _ _ _ _ _ => hi1 _ (g.blk (blkK g h))) (fun _ _ _ _ _ => hg1 _ (g.blk (blkK g h))) (fun _ _ _ _ _ => ht1 _ (g.blk (blkK g h))) (fun _ _ _ _ _ => he _ (g.blk (blkK g h))) (hs _) hs1
  rw [List.all_eq_true] at hv
  simpa using hv i hi
/-- a comprehension stored at a name that is no plain local -/
theorem g_asgC {elt : Expr} {gens : List Comprehension} {scope : Scope} {fg : ME} (hsw : swapB sc y py pos scope = false) (he : PE X (.ListComp elt gens scope pos) (tD G.B fe)) (hg : PG X (.Name y py) (tG G.B fg)) : PS X (.Assign [.Name y py] (.ListComp elt gens scope pos) spos) (tS G.B (asgS fe fg)) :=
  ds_asg he hg (by unfold swapsWithSole; dsimp only; rw [g.swaps, hsw]) (by rfl) rfl
omit g in
theorem g_asg {tg : Expr} {fg : ME} (he : PE X e (tD G.B fe)) (hg : PG X tg (tG G.B fg)) (hs : ∀ line env, swapsWithSole [tg] e line env = pure false) (hw : ∀ env, swappedStores [tg] e env = pure none) (hst : isStar tg = false) : PS X (.Assign [tg] e pos) (tS G.B (asgS fe fg)) :=
  ds_asg he hg (hs _ _) (hw _) hst
def dEnv (sc : Scope) : PySem.Env := { scope := sc, locals := 0, globals := 0, cells := [] }
theorem Good.swapped {ts : List Expr} {v : Expr} : swappedStores ts v X.env = swappedStores ts v (dEnv sc) := by
  unfold swappedStores Env.blockKind Env.kindOf
  rw [g.eS]
  rfl
/-- by the scope alone -/
theorem g_asgS {tg : Expr} {fg : ME} (he : PE X e (tD G.B fe)) (hg : PG X tg (tG G.B fg)) (hs : ∀ line env, swapsWithSole [tg] e line env = pure false) (hw : swappedStores [tg] e (dEnv sc) = pure none) (hst : isStar tg = false) : PS X (.Assign [tg] e pos) (tS G.B (asgS fe fg)) :=
  ds_asg he hg (hs _ _) (by rw [g.swapped]; exact hw) hst
theorem g_par2 {kt k2 : Nat} {pt2 : Pos} (h : ((N[i]? == some x) && (N[j]? == some y) && lk sc x .local && lk sc y .local && !decide (i = j)) = true) (ha : PA X [a, b] (tA G.B fr)) (hw : swappedStores [.Tuple [.Name x px, .Name y py] kt pt] (.Tuple [a, b] k2 pt2) (dEnv sc) = pure (some [x, y])) :
    PS X (.Assign [.Tuple [.Name x px, .Name y py] kt pt] (.Tuple [a, b] k2 pt2) pos) (tS G.B (parS [i, j] fr)) := by
  simp only [Bool.and_eq_true, Bool.not_eq_true', decide_eq_false_iff_not] at h
  obtain ⟨⟨⟨⟨h1, h2⟩, h3⟩, h4⟩, h5⟩ := h
  exact psW (ps_par g.calm (by rw [g.eN]; exact g.nd) (by rw [g.eN]; exact eq_of_beq h1) (by rw [g.eN]; exact eq_of_beq h2) h5 (by rw [g.eS]; exact lk_of h3) (by rw [g.eS]; exact lk_of h4) ha (by rw [g.swapped]; exact hw) (by rfl)) fun _ _ _ h => w_par2 h
theorem g_par3 {kt k2 : Nat} {pt2 : Pos} (h : ((N[i]? == some x) && (N[j]? == some y) && (N[l]? == some z) && lk sc x .local && lk sc y .local && lk sc z .local && !decide (i = j) && !decide (i = l) && !decide (j = l)) = true) (ha : PA X [a, b, c] (tA G.B fr))
    (hw : swappedStores [.Tuple [.Name x px, .Name y py, .Name z pz] kt pt] (.Tuple [a, b, c] k2 pt2) (dEnv sc) = pure (some [x, y, z])) :
    PS X (.Assign [.Tuple [.Name x px, .Name y py, .Name z pz] kt pt] (.Tuple [a, b, c] k2 pt2) pos) (tS G.B (parS [i, j, l] fr)) := by
  simp only [Bool.and_eq_true, Bool.not_eq_true', decide_eq_false_iff_not] at h
  obtain ⟨⟨⟨⟨⟨⟨⟨⟨h1, h2⟩, h3⟩, h4⟩, h5⟩, h6⟩, h7⟩, h8⟩, h9⟩ := h
  exact psW (ps_par3 g.calm (by rw [g.eN]; exact g.nd) (by rw [g.eN]; exact eq_of_beq h1) (by rw [g.eN]; exact eq_of_beq h2) (by rw [g.eN]; exact eq_of_beq h3) h7 h8 h9 (by rw [g.eS]; exact lk_of h4) (by rw [g.eS]; exact lk_of h5) (by rw [g.eS]; exact lk_of h6) ha (by rw [g.swapped]; exact hw) (by rfl)) fun _ _ _ h => w_par3 h
/-! loops -/
theorem Good.pass : PassesOwn (model X.prog X.w) X.A X.env X.xe := by
  rw [g.xe]
  exact PassesOwn.never
theorem g_for {tg iter : Expr} {body : List Stmt} {fi : ML} {fg : ME} {fs : MS} (hi : PI X tg iter (tI G.B fi)) (hg : PG X tg (tG G.B fg)) (hb : PSs X body (tS G.B fs)) (hs : ∀ env x, foldedSetIterable iter env x = pure x) :
    PS X (.For tg iter body [] pos) (tS G.B (forS fi fg fs)) := ds_for g.pass g.calm hi hg hb (hs _)
theorem g_while {body : List Stmt} {fs : MS} (n : Nat) (hc : PT X c (tT G.B (truM fc))) (hb : PSs X body (tS G.B fs)) : PS X (.While c body [] pos) (tS G.B (fun ρ S => whileL fc fs n ρ S)) := ds_while n g.pass hc hb
theorem g_ndef {nm : Nat → Nat → Str} {cd P : Addr} {name q : Str} {params : Arguments} {body : List Stmt} {scope : Scope} (TB : TabB G.base G.mg cd P) (hcode : X.env.code = .ref cd) (hq : X.env.qual = q) (hm : (P, nm) ∈ G.B.tabs) (hn : nm pos.line pos.col = q ++ name) (hu : ∀ p ∈ G.B.tabs, p.1 = P → p.2 = nm)
    (hfl : freeless scope = true) (hd0 : params.defaults = []) (hk0 : params.kw_defaults = []) (ha : ∀ env, annTrees params none env = []) (hl : locB N sc own i name = true) (hcf : ∀ c', G.B.cf j c' = ⟨name, q ++ name, params, body, scope, [], c'⟩) :
    PS X (.FunctionDef name params body [] none [] scope none name pos) (tS G.B (ndefS i j)) := by
  obtain ⟨h1, h2⟩ := and2 hl
  obtain ⟨h3, h4⟩ := and2 h1
  refine ds_ndef (nm := nm) (c := cd) (P := P) (by rw [g.base, g.mg]; exact TB) hcode hm (by rw [hq]; exact hn) hu hfl hd0 hk0 (ha _) (by rw [g.eN]; exact g.nd) (by rw [g.eN]; exact eq_of_beq h3) ?_ ?_ (fun c' => by rw [hq]; exact hcf c')
  · show X.env.scope.names.lookup name = _ ∨ X.env.scope.names.lookup name = _
    rw [g.eS]
    exact (Bool.or_eq_true_iff.mp h4).imp lk_of lk_of
  · rw [g.eO, g.eS]
    exact (Bool.or_eq_true_iff.mp h2).imp id lk_of
end

/-! ### levels -/
abbrev FB := Nat → (Nat → MF) → (Nat → MF) → MF
def lev (fb cb : FB) : Nat → (Nat → MF) × (Nat → MF)
  | 0 => (fun _ _ _ => .bad, fun _ _ _ => .bad)
  | k + 1 => (fun i => fb i (lev fb cb k).1 (lev fb cb k).2, fun j => cb j (lev fb cb k).1 (lev fb cb k).2)
structure Impl (tx : Text) (G : G0) (fb cb : FB) : Prop where
  free : ∀ x ∈ tx.free, G.mg x = none
  nums : ∀ p ∈ tx.nums, ∃ t, G.mg p.1 = some (.int p.2 t)
  fns : ∀ i inf, tx.fns[i]? = some inf → G.mg inf.name = some (.ref (G.B.fa i)) ∧ PySem.W.keepIn G.B.K (.ref (G.B.fa i)) = true ∧ inf.ps.Nodup ∧
    ∃ (a : Arguments) (fd : FuncData), plainArgs a inf.ps = true ∧ fd.params = a ∧ fd.defaults = .none ∧ ∀ k sem csem, Tab tx G k sem csem → FnOk G.P G.w G.B.K G.mg G.base CX0 (k + 1) (G.B.fa i) fd inf.ps (spD G.B inf.ps.length (fb i sem csem))
  clos : ∀ j ps, tx.clos[j]? = some ps → (∀ c, (G.B.cf j c).cl = []) ∧ (∀ c, (G.B.cf j c).c = c) ∧ ∀ k sem csem, Tab tx G k sem csem → ∀ a c, NOk G.P G.w G.B.K G.mg G.base CX0 (k + 1) a (G.B.cf j c) ps [] (fun _ => spD G.B ps.length (cb j sem csem))
theorem spD_bad {B : Bs} {ar : Nat} {vs : List V} {H : Hp} {Q : VK} {E : XK} (h : spD B ar (fun _ _ => .bad) vs H Q E) : False := by
  obtain ⟨S, O, L, ds, _, _, _, _, h⟩ := h
  exact h
theorem Impl.tab {tx : Text} {G : G0} {fb cb : FB} (I : Impl tx G fb cb) : ∀ k, Tab tx G k (lev fb cb k).1 (lev fb cb k).2
  | 0 => ⟨I.free, I.nums, fun i inf h => by
      obtain ⟨h1, h2, h3, a, fd, h4, h5, h6, _⟩ := I.fns i inf h
      exact ⟨h1, h2, h3, a, fd, h4, h5, h6, fun vs H Q E q => spD_len q, fun A outer s H args us vs Q E _ _ _ _ q => (spD_bad q).elim⟩, fun j ps h => by
      obtain ⟨h1, h2, _⟩ := I.clos j ps h
      exact ⟨h1, h2, fun a c => ⟨fun ws vs H Q E q => spD_len q, fun A outer s H us vs ws Q E _ _ _ _ _ _ q => (spD_bad q).elim⟩⟩⟩
  | k + 1 => ⟨I.free, I.nums, fun i inf h => by
      obtain ⟨h1, h2, h3, a, fd, h4, h5, h6, h7⟩ := I.fns i inf h
      exact ⟨h1, h2, h3, a, fd, h4, h5, h6, h7 k _ _ (I.tab k)⟩, fun j ps h => by
      obtain ⟨h1, h2, h3⟩ := I.clos j ps h
      exact ⟨h1, h2, h3 k _ _ (I.tab k)⟩⟩
/-- a def's context is good -/
theorem good_def {tx : Text} {G : G0} {k : Nat} {sem csem : Nat → MF} {N : List Str} {qual : Str} {scope : Scope} {f : Addr} {cdv : Value} {A : Around} {outer : List PySem.Env} {s : Shared} {H : Hp} (T : Tab tx G k sem csem) (hr : Room k (A.deeper (envOfC qual scope s.heap.objs.size f cdv))) (nd : N.Nodup) (hk : scope.kind = .function) :
    Good tx G k sem csem N scope (fun _ => true) (cxOf CX0 G.P G.w G.B.K G.mg G.base N qual scope f cdv A outer s H E0).nox :=
  ⟨T, rfl, rfl, rfl, rfl, rfl, rfl, rfl, rfl, rfl, hr, rfl, nd, hk⟩
theorem good_nested {tx : Text} {G : G0} {k : Nat} {sem csem : Nat → MF} {N : List Str} {F : NF} {f : Addr} {A : Around} {outer : List PySem.Env} {s : Shared} {H : Hp} (T : Tab tx G k sem csem) (hr : Room k (A.deeper (envF F f s.heap.objs.size))) (nd : N.Nodup) (hk : F.scope.kind = .function) :
    Good tx G k sem csem N F.scope (fun _ => false) (ncx CX0 G.P G.w G.B.K G.mg G.base N F f A outer s H E0).nox :=
  ⟨T, rfl, rfl, rfl, rfl, rfl, rfl, rfl, rfl, rfl, hr, rfl, nd, hk⟩
/-- names, parameters, scope of a def -/
def fscB (N ps : List Str) (sc : Scope) : Bool := decide (sc.kind = .function) && !sc.isCoroutine && !sc.isGenerator && decide N.Nodup && decide (N.take ps.length = ps) && ps.all (fun x => lk sc x .local || lk sc x .cell) && sc.names.all fun y => !decide (y.2 = .free)
theorem fsc_of {N ps : List Str} {sc : Scope} (h : fscB N ps sc = true) : FnScope N ps sc := by
  unfold fscB at h
  simp only [Bool.and_eq_true, Bool.not_eq_true', decide_eq_true_eq, List.all_eq_true, Bool.or_eq_true, decide_eq_false_iff_not] at h
  obtain ⟨⟨⟨⟨⟨⟨h1, h2⟩, h3⟩, h4⟩, h5⟩, h6⟩, h7⟩ := h
  exact ⟨h1, h2, h3, h4, h5, fun x hx => (h6 x hx).imp lk_of lk_of, h7⟩
end PD


set_option Elab.async false
set_option linter.all false
set_option maxRecDepth 100000
set_option maxHeartbeats 4000000
/-! PD14: a text's defs from the head's facts; ranges as lists. -/
namespace PD
open PySem PySem.Spec PyProof.Rows L2 LamX NdefX

theorem fd_params {K : PySem.W.Frag} {x qual : Str} {params : Arguments} {body : List Stmt} {scope : Scope} {kws : List (Str × V)} {f : Addr} {fd : FuncData} (F : FunD K x qual params body scope [] kws f fd) : fd.params = params ∧ fd.defaults = .none := by
  obtain ⟨oc, od, dV, kV, doc, pm, an, cdv, ct, osl, rfl, lk, hcd, hd, _⟩ := F.ex
  refine ⟨rfl, ?_⟩
  rcases hd with ⟨_, e⟩ | ⟨e, _⟩
  · exact e
  · exact absurd rfl e
/-- a def of the text: what its level needs -/
theorem impl_fnOk {tx : Text} {G : G0} {fb : (Nat → MF) → (Nat → MF) → MS} {N : List Str} {x : Str} {ps : List Str} {p : He.Defn} {params : Arguments} {body : List Stmt} {scope : Scope} {kws : List (Str × V)} {fd : FuncData}
    (F : FunD G.B.K x x params body scope [] kws (He.fAd G.B.K p) fd) (ok : (fscB N ps scope && plainArgs params ps && decide ps.Nodup) = true)
    (hb : ∀ k sem csem X, Good tx G k sem csem N scope (fun _ => true) X → X.env.code = .ref (He.codeOf G.B.K p) → X.env.qual = x ++ ".<locals>." → PSs X body (tS G.B (fb sem csem))) :
    ∀ k sem csem, Tab tx G k sem csem → FnOk G.P G.w G.B.K G.mg G.base CX0 (k + 1) (He.fAd G.B.K p) fd ps (spD G.B ps.length (runS N.length (fb sem csem))) := by
  obtain ⟨ok, nd⟩ := and2 ok
  obtain ⟨ok, pl⟩ := and2 ok
  have S := fsc_of ok
  intro k sem csem T
  obtain ⟨oc, od, dV, kV, doc, pm, an, cdv, ct, osl, rfl, lk, hcd, _, _⟩ := F.ex
  obtain ⟨c, rfl⟩ := He.codeIn_ref hcd
  have ec : He.codeOf G.B.K p = c := He.codeOf_eq lk rfl
  refine fn_of lk hcd S (fun vs H Q E h => spD_len h) fun A outer s H vs Q E hr h => ⟨tS G.B (fb sem csem), PSs.nox ?_, body_end h⟩
  exact hb k sem csem _ (good_def T hr S.nd S.kind) (by rw [ec]; rfl) rfl
theorem impl_fn {tx : Text} {G : G0} {fb : (Nat → MF) → (Nat → MF) → MS} {N : List Str} {i : Nat} {inf : Inf} {p : He.Defn} {params : Arguments} {body : List Stmt} {scope : Scope} {kws : List (Str × V)} {fd : FuncData} (hi : G.B.fa i = He.fAd G.B.K p)
    (F : FunD G.B.K inf.name inf.name params body scope [] kws (He.fAd G.B.K p) fd) (hg : G.mg inf.name = some (.ref (He.fAd G.B.K p))) (ok : (fscB N inf.ps scope && plainArgs params inf.ps && decide inf.ps.Nodup) = true)
    (hb : ∀ k sem csem X, Good tx G k sem csem N scope (fun _ => true) X → X.env.code = .ref (He.codeOf G.B.K p) → X.env.qual = inf.name ++ ".<locals>." → PSs X body (tS G.B (fb sem csem))) :
    G.mg inf.name = some (.ref (G.B.fa i)) ∧ PySem.W.keepIn G.B.K (.ref (G.B.fa i)) = true ∧ inf.ps.Nodup ∧
    ∃ (a : Arguments) (fd : FuncData), plainArgs a inf.ps = true ∧ fd.params = a ∧ fd.defaults = .none ∧ ∀ k sem csem, Tab tx G k sem csem → FnOk G.P G.w G.B.K G.mg G.base CX0 (k + 1) (G.B.fa i) fd inf.ps (spD G.B inf.ps.length (runS N.length (fb sem csem))) := by
  rw [hi]
  obtain ⟨ok', nd⟩ := and2 ok
  obtain ⟨ok', pl⟩ := and2 ok'
  obtain ⟨e1, e2⟩ := fd_params F
  exact ⟨hg, F.kp, of_decide_eq_true nd, params, fd, pl, e1, e2, impl_fnOk F ok hb⟩
theorem impl_clo {tx : Text} {G : G0} {fb : (Nat → MF) → (Nat → MF) → MS} {N ps : List Str} {j : Nat} {name qual : Str} {params : Arguments} {body : List Stmt} {scope : Scope} (hj : ∀ c, G.B.cf j c = ⟨name, qual, params, body, scope, [], c⟩)
    (ok : (nscB N ps [] scope && plainArgs params ps && decide ps.Nodup) = true)
    (hb : ∀ k sem csem X, Good tx G k sem csem N scope (fun _ => false) X → PSs X body (tS G.B (fb sem csem))) :
    (∀ c, (G.B.cf j c).cl = []) ∧ (∀ c, (G.B.cf j c).c = c) ∧ ∀ k sem csem, Tab tx G k sem csem → ∀ a c, NOk G.P G.w G.B.K G.mg G.base CX0 (k + 1) a (G.B.cf j c) ps [] (fun _ => spD G.B ps.length (runS N.length (fb sem csem))) := by
  obtain ⟨ok, nd⟩ := and2 ok
  obtain ⟨ok, pl⟩ := and2 ok
  have S := nscope_by ok
  refine ⟨fun c => by rw [hj], fun c => by rw [hj], fun k sem csem T a c => ?_⟩
  refine fn_nested (by rw [hj]; exact S) (by rw [hj]; exact pl) (of_decide_eq_true nd) fun A outer s H hr => ?_
  have q := hb k sem csem (ncx CX0 G.P G.w G.B.K G.mg G.base N (G.B.cf j c) a A outer s H E0).nox ?g
  case g =>
    have z := good_nested (N := N) (F := G.B.cf j c) (f := a) (A := A) (outer := outer) (s := s) (H := H) T hr S.nd (by rw [hj]; exact S.kind)
    have e : (G.B.cf j c).scope = scope := by rw [hj]
    rw [e] at z
    exact z
  · have e : (G.B.cf j c).body = body := by rw [hj]
    rw [e]
    exact q

/-! ### list(range(..)), tuple(range(..)) -/
def rgPR (fi : ML) (lo hi : Env → Sto → Option (Int × Int)) : Prop := True
section
variable {tx : Text} {G : G0} {k : Nat} {sem csem : Nat → MF} {N : List Str} {sc : Scope} {own : Str → Bool} {X : Cx} {e a b c : Expr} {es : List Expr} {fa fb fc fe : MD} {fr fk : ML} {x y z : Str} {i j n l : Nat} {p p2 pos pos2 apos cpos py px pz pt spos : Pos}
variable (g : Good tx G k sem csem N sc own X)
include g
theorem g_listN (h : freB tx sc "list" = true) (ha : PA X [e] (tA G.B fr)) (hs : noStars [e] = true) : PE X (.Call (.Name "list" p) [e] [] pos) (tD G.B (mL fr listN)) := by
  obtain ⟨h1, h2, h3⟩ := g.fre h
  exact de_callTy call_list_of (by rw [g.K]; exact s_listN) h1 h2 (by rfl) ha h3 hs
end
end PD


set_option Elab.async false
set_option linter.all false
set_option maxRecDepth 100000
set_option maxHeartbeats 4000000
/-! PD15: sorted by a lambda's key. -/
namespace PD
open PySem PySem.Spec PyProof.Rows L2 LamX NdefX

/-! ### data, any depth -/
theorem dat_up : ∀ (k : Nat) (d : D), D.dat k d = true → D.dat (k + 1) d = true
  | 0, d, h => by cases d <;> simp_all [D.dat]
  | k + 1, .tup xs, h => by
    simp only [D.dat, List.all_eq_true] at h ⊢
    exact fun d hd => dat_up k d (h d hd)
  | k + 1, .lst xs, h => by
    simp only [D.dat, List.all_eq_true] at h ⊢
    exact fun d hd => dat_up k d (h d hd)
  | k + 1, .non, h => rfl
  | k + 1, .bl _, h => rfl
  | k + 1, .int _, h => rfl
  | k + 1, .str _, h => h
  | k + 1, .fn _, h => by cases h
  | k + 1, .clo _, h => by cases h
  | k + 1, .loc _, h => by cases h
  | k + 1, .scr _, h => by cases h
theorem dat_le {k j : Nat} {d : D} (h : D.dat k d = true) (hj : k ≤ j) : D.dat j d = true := by
  induction hj with
  | refl => exact h
  | step _ ih => exact dat_up _ _ ih
theorem toP_eq : ∀ (k j : Nat) (d : D), D.dat k d = true → D.dat j d = true → D.toP k d = D.toP j d
  | k + 1, j + 1, .tup xs, h, h' => by
    simp only [D.dat, List.all_eq_true] at h h'
    simp only [D.toP, PyData.tuple.injEq]
    exact List.map_congr_left fun d hd => toP_eq k j d (h d hd) (h' d hd)
  | k + 1, j + 1, .lst xs, h, h' => by
    simp only [D.dat, List.all_eq_true] at h h'
    simp only [D.toP, PyData.list.injEq]
    exact List.map_congr_left fun d hd => toP_eq k j d (h d hd) (h' d hd)
  | 0, _, .tup xs, h, h' => by cases h
  | 0, _, .lst xs, h, h' => by cases h
  | _ + 1, 0, .tup xs, h, h' => by cases h'
  | _ + 1, 0, .lst xs, h, h' => by cases h'
  | k, j, .non, h, h' => by cases k <;> cases j <;> rfl
  | k, j, .bl _, h, h' => by cases k <;> cases j <;> rfl
  | k, j, .int _, h, h' => by cases k <;> cases j <;> rfl
  | k, j, .str _, h, h' => by cases k <;> cases j <;> rfl
  | k, j, .fn _, h, h' => by cases k <;> cases h
  | k, j, .clo _, h, h' => by cases k <;> cases h
  | k, j, .loc _, h, h' => by cases k <;> cases h
  | k, j, .scr _, h, h' => by cases k <;> cases h
/-- without lists -/
def nl : Nat → D → Bool
  | _, .lst _ => false
  | k + 1, .tup xs => xs.all (nl k)
  | _, .tup _ => false
  | _, _ => true
mutual
theorem nl_reads {h : Heap} : ∀ (k : Nat) (d : D) (v : Value) (as : List Addr), nl k d = true → D.dat k d = true → Reads h v (D.toP k d) as → as = []
  | k + 1, .tup xs, v, as, n, q, r => by
    cases r with
    | tuple h1 h2 h3 h4 => exact nl_readsAll k xs _ as (by simpa [nl] using n) (by simpa [D.dat] using q) h4
  | 0, .tup xs, v, as, n, q, r => by cases n
  | _, .lst xs, v, as, n, q, r => by simp [nl] at n
  | k, .non, v, as, n, q, r => by cases k <;> (cases r; rfl)
  | k, .bl _, v, as, n, q, r => by cases k <;> (cases r; rfl)
  | k, .int _, v, as, n, q, r => by cases k <;> (cases r; rfl)
  | k, .str _, v, as, n, q, r => by cases k <;> (cases r; rfl)
  | k, .fn _, v, as, n, q, r => by cases k <;> cases q
  | k, .clo _, v, as, n, q, r => by cases k <;> cases q
  | k, .loc _, v, as, n, q, r => by cases k <;> cases q
  | k, .scr _, v, as, n, q, r => by cases k <;> cases q
theorem nl_readsAll {h : Heap} : ∀ (k : Nat) (xs : List D) (vs : List Value) (as : List Addr), (∀ d ∈ xs, nl k d = true) → (∀ d ∈ xs, D.dat k d = true) → ReadsAll h vs (xs.map (D.toP k)) as → as = []
  | _, [], _, _, _, _, r => by cases r; rfl
  | k, d :: ds, _, _, n, q, r => by
    cases r with
    | cons h1 h2 =>
      rw [nl_reads k d _ _ (n d List.mem_cons_self) (q d List.mem_cons_self) h1, nl_readsAll k ds _ _ (fun z hz => n z (List.mem_cons_of_mem _ hz)) (fun z hz => q z (List.mem_cons_of_mem _ hz)) h2]
      rfl
end

/-! ### a key's body: plain words -/
inductive KX where
  | par | cap (i : Nat) | int (i : Int) | sub (a b : KX) | ix (a b : KX) | len (a : KX) | pair (a b : KX)
def KX.ev (ρ : Env) (d : D) : KX → Option D
  | .par => some d
  | .cap i => slotD ρ i
  | .int i => some (.int i)
  | .sub a b => match a.ev ρ d, b.ev ρ d with
    | some (.int i), some (.int j) => some (.int (i - j))
    | _, _ => none
  | .ix a b => match a.ev ρ d, b.ev ρ d with
    | some (.tup xs), some (.int i) => if xs.length ≤ lim then atI xs i else none
    | _, _ => none
  | .len a => match a.ev ρ d with
    | some (.tup xs) => if xs.length ≤ lim then some (.int xs.length) else none
    | _ => none
  | .pair a b => match a.ev ρ d, b.ev ρ d with
    | some x, some y => some (.tup [x, y])
    | _, _ => none
/-- N: the maker's names, sc: the lambda's scope, x: its parameter -/
def KX.ok (N : List Str) (sc : Scope) (x : Str) : KX → Expr → Bool
  | .par, .Name y _ => (y == x) && lk sc y .local && noDunder y
  | .cap i, .Name y _ => (N[i]? == some y) && lk sc y .free && noDunder y
  | .int i, .Constant (.int j) _ _ => i == j
  | .sub a b, .BinOp l .Sub r _ => a.ok N sc x l && b.ok N sc x r
  | .ix a b, .Subscript l (.Name y p) _ => a.ok N sc x l && b.ok N sc x (.Name y p)
  | .ix a b, .Subscript l (.Constant (.int j) q p) _ => a.ok N sc x l && b.ok N sc x (.Constant (.int j) q p)
  | .len a, .Call (.Name y _) [e] [] _ => (y == "len") && lk sc y .globalImplicit && a.ok N sc x e && !isStar e
  | .pair a b, .Tuple [l, r] _ _ => a.ok N sc x l && b.ok N sc x r && !isStar l && !isStar r
  | _, _ => false
abbrev Kp (h h' : Heap) : Prop := ∀ b o, h.get? b = some o → h'.get? b = some o
def KV (M : Model) (A : Around) (env : PySem.Env) (h0 : Heap) (e : Expr) (r : D) : Prop := (∃ k, D.dat k r = true) ∧ ∀ (s : Shared) (E : Value → Shared → Prop), Kp h0 s.heap → wpAny M A (eval e env) (fun v s' => ∃ h' tk, s' = { s with heap := h', toks := tk } ∧ Kp s.heap h' ∧ ∀ k, D.dat k r = true → ∃ as, Reads h' v (D.toP k r) as) E s
/-- what the lambda's frame knows -/
structure KF (env : PySem.Env) (h0 : Heap) (mg : Str → Option Value) (N : List Str) (sc : Scope) (x : Str) (ρ : Env) (d : D) : Prop where
  eS : env.scope = sc
  kind : sc.kind = .function
  par : ∃ m v, h0.Ns env.locals m ∧ m x = some v ∧ (∃ k, D.dat k d = true) ∧ ∀ k, D.dat k d = true → ∃ as, Reads h0 v (D.toP k d) as
  cap : ∀ (i : Nat) (y : Str) (e : D), N[i]? = some y → sc.names.lookup y = some .free → slotD ρ i = some e → (∃ k, D.dat k e = true) → ∃ c v, env.cells.lookup y = some c ∧ h0.IsCell c (some v) ∧ ∀ k, D.dat k e = true → ∃ as, Reads h0 v (D.toP k e) as
  glo : h0.Ns env.globals mg
  len : mg "len" = none
  blt : ∃ mb, h0.Ns env.builtins mb ∧ mb "len" = some (.builtin "len")
theorem ns_keep {h h' : Heap} {a : Addr} {m : Str → Option Value} (x : h.Ns a m) (k : Kp h h') : h'.Ns a m :=
  let ⟨o, es, ep, h1, h2⟩ := x
  ⟨o, es, ep, k _ _ h1, h2⟩
theorem read_tup {h : Heap} {v : Value} {xs : List PyData} {as : List Addr} (r : Reads h v (.tuple xs) as) : ∃ a its bs, v = .ref a ∧ IsTup h a (List.toArray its) ∧ ReadsAll h its xs bs := by
  cases r with
  | tuple h1 h2 h3 h4 => exact ⟨_, _, _, rfl, ⟨_, h1, h2, _, by simpa using h3⟩, h4⟩
theorem read_at {h : Heap} : ∀ {its : List Value} {xs : List PyData} {bs : List Addr} {i : Nat} {p : PyData}, ReadsAll h its xs bs → xs[i]? = some p → ∃ v as, its[i]? = some v ∧ Reads h v p as
  | _, _, _, _, _, .nil, e => by simp at e
  | _, _, _, 0, _, .cons r _, e => by simp at e; subst e; exact ⟨_, _, rfl, r⟩
  | _, _, _, i + 1, p, .cons _ t, e => by
    obtain ⟨u, as, h1, h2⟩ := read_at (i := i) (p := p) t (by simpa using e)
    exact ⟨u, as, by simpa using h1, h2⟩
theorem read_len {h : Heap} : ∀ {its : List Value} {xs : List PyData} {bs : List Addr}, ReadsAll h its xs bs → its.length = xs.length
  | _, _, _, .nil => rfl
  | _, _, _, .cons _ t => congrArg (· + 1) (read_len t)
theorem dat_tup {k : Nat} {xs : List D} (h : D.dat k (.tup xs) = true) : ∃ j, k = j + 1 ∧ ∀ d ∈ xs, D.dat j d = true := by
  cases k with
  | zero => cases h
  | succ j => exact ⟨j, rfl, by simpa [D.dat] using h⟩
theorem read_int {h : Heap} {v : Value} {i : Int} (r : ∀ k, D.dat k (.int i) = true → ∃ as, Reads h v (D.toP k (.int i)) as) : ∃ t, v = .int i t := by
  obtain ⟨as, r⟩ := r 0 rfl
  cases r
  exact ⟨_, rfl⟩
section
variable {prog : Program} {w : World} {A : Around} {env : PySem.Env} {h0 : Heap} {mg : Str → Option Value} {N : List Str} {sc : Scope} {x : Str} {ρ : Env} {d : D}
/-- the captured ones are data -/
def _root_.PD.KX.caps (ρ : Env) : KX → Bool
  | .cap i => match slotD ρ i with
    | some e => D.dat dep e
    | none => false
  | .sub a b => a.caps ρ && b.caps ρ
  | .ix a b => a.caps ρ && b.caps ρ
  | .len a => a.caps ρ
  | .pair a b => a.caps ρ && b.caps ρ
  | _ => true
theorem kv_int {j : Nat} {pos : Pos} {i : Int} : KV (model prog w) A env h0 (.Constant (.int i) j pos) (.int i) := ⟨⟨0, rfl⟩, fun s E hk => wpAny_Constant_int ⟨_, _, rfl, fun _ _ e => e, fun k _ => ⟨_, by cases k <;> exact .int i _⟩⟩⟩
theorem kv_sub {a b : Expr} {pos : Pos} {i j : Int} (ha : KV (model prog w) A env h0 a (.int i)) (hb : KV (model prog w) A env h0 b (.int j)) : KV (model prog w) A env h0 (.BinOp a .Sub b pos) (.int (i - j)) := by
  refine ⟨⟨0, rfl⟩, fun s E hk => wpAny_BinOp (wpAny_mono (ha.2 s E hk) (fun v s1 h => ?_) fun _ _ e => e)⟩
  obtain ⟨h1, t1, rfl, k1, r1⟩ := h
  refine wpAny_mono (hb.2 _ E fun b o e => k1 b o (hk b o e)) (fun u s2 h => ?_) fun _ _ e => e
  obtain ⟨h2, t2, rfl, k2, r2⟩ := h
  obtain ⟨t, rfl⟩ := read_int r1
  obtain ⟨t', rfl⟩ := read_int r2
  exact sub_int ⟨_, _, rfl, fun b o e => k2 b o (k1 b o e), fun k _ => ⟨_, by cases k <;> exact .int _ _⟩⟩
theorem kv_ix {a b : Expr} {pos : Pos} {xs : List D} {i : Int} {r : D} (ha : KV (model prog w) A env h0 a (.tup xs)) (hb : KV (model prog w) A env h0 b (.int i)) (hl : xs.length ≤ lim) (hr : atI xs i = some r) (hp : PlainIx b) : KV (model prog w) A env h0 (.Subscript a b pos) r := by
  obtain ⟨⟨k0, hk0⟩, ha⟩ := ha
  obtain ⟨j, rfl, hj⟩ := dat_tup hk0
  obtain ⟨n, hn1, hn2, hn3, hn4, hn5⟩ := atI_get hr
  refine ⟨⟨j, hj r (List.mem_of_getElem? hn2)⟩, fun s E hk => Subscript_ (wpAny_mono (ha s E hk) (fun v s1 h => ?_) fun _ _ e => e)⟩
  obtain ⟨h1, t1, rfl, k1, r1⟩ := h
  refine wpAny_mono (hb.2 _ E fun b o e => k1 b o (hk b o e)) (fun u s2 h => ?_) fun _ _ e => e
  obtain ⟨h2, t2, rfl, k2, r2⟩ := h
  obtain ⟨as, r1⟩ := r1 (j + 1) hk0
  obtain ⟨t', rfl⟩ := read_int r2
  have r1 := Reads.keeps k2 r1
  obtain ⟨q, its, bs, rfl, T, ra⟩ := read_tup (xs := xs.map (D.toP j)) r1
  have hlen := read_len ra
  rw [List.length_map] at hlen
  obtain ⟨v, vs, hv, rv⟩ := read_at (i := n) (p := D.toP j r) ra (by rw [List.getElem?_map, hn2]; rfl)
  have hz := lim_line hl
  have h63 := line63
  refine subscriptTail_builtinR (x := v) T.typeIs slot_tuple_getitem.lookup (getItem_tuple (j := n) T (by omega) (by omega) (by rw [List.size_toArray, hlen]; exact hn1) (by simpa using hv) ⟨rfl, _, _, rfl, fun b o e => k2 b o (k1 b o e), fun k hkr => ⟨vs, ?_⟩⟩) (hp _ _)
  rw [toP_eq k j r hkr (hj r (List.mem_of_getElem? hn2))]
  exact rv
theorem kv_name {pos : Pos} (F : KF env h0 mg N sc x ρ d) (h : lk sc x .local = true) (hd : noDunder x = true) : KV (model prog w) A env h0 (.Name x pos) d := by
  obtain ⟨m, v, hns, hm, hk0, hr⟩ := F.par
  have hd := (noD1 hd).2.1
  refine ⟨hk0, fun s E hk => wpAny_Name (wpAny_loadName_local (by rw [F.eS]; exact F.kind) (by show env.scope.names.lookup x = _; rw [F.eS]; exact lk_of h) (ns_keep hns hk) hm ⟨_, s.toks, rfl, fun _ _ e => e, fun k q => ?_⟩) hd⟩
  obtain ⟨as, r⟩ := hr k q
  exact ⟨as, Reads.keeps hk r⟩
theorem kv_cap {y : Str} {pos : Pos} {i : Nat} {r : D} (F : KF env h0 mg N sc x ρ d) (hi : N[i]? = some y) (h : lk sc y .free = true) (hd : noDunder y = true) (hs : slotD ρ i = some r) (hc : D.dat dep r = true) : KV (model prog w) A env h0 (.Name y pos) r := by
  obtain ⟨c, v, h1, h2, h3⟩ := F.cap i y r hi (lk_of h) hs ⟨_, hc⟩
  obtain ⟨_, d1, d2⟩ := noD1 hd
  refine ⟨⟨_, hc⟩, fun s E hk => wpAny_Name (wpAny_loadName_free (by rw [F.eS]; exact F.kind) (by show env.scope.names.lookup y = _; rw [F.eS]; exact lk_of h) h1 (h2.keeps hk) ⟨_, s.toks, rfl, fun _ _ e => e, fun k q => ?_⟩ d2) d1⟩
  obtain ⟨as, r⟩ := h3 k q
  exact ⟨as, Reads.keeps hk r⟩
theorem kv_len {e : Expr} {p pos : Pos} {xs : List D} (F : KF env h0 mg N sc x ρ d) (h : lk sc "len" .globalImplicit = true) (ha : KV (model prog w) A env h0 e (.tup xs)) (hl : xs.length ≤ lim) (hs : isStar e = false) : KV (model prog w) A env h0 (.Call (.Name "len" p) [e] [] pos) (.int xs.length) := by
  obtain ⟨⟨k0, hk0⟩, ha⟩ := ha
  obtain ⟨j, rfl, hj⟩ := dat_tup hk0
  obtain ⟨mb, b1, b2⟩ := F.blt
  refine ⟨⟨0, rfl⟩, fun s E hk => wpAny_Call_Name_kw (Calls.Name_function_global (by rw [F.eS]; exact F.kind) (by show env.scope.names.lookup _ = _; rw [F.eS]; exact lk_of h) (Calls.loadGlobal_builtin (ns_keep F.glo hk) F.len (ns_keep b1 hk) b2 ?_))⟩
  refine PyProof.Rows.callWith_builtin1 ?_ (starEach_cons hs) (by rfl)
  rw [starEach_cons hs]
  refine Calls.spliced_cons (wpAny_mono (ha s E hk) (fun v s1 h => ?_) fun _ _ e => e)
  refine Calls.spliced_nil ?_
  obtain ⟨h1, t1, rfl, k1, r1⟩ := h
  obtain ⟨as, r1⟩ := r1 (j + 1) hk0
  obtain ⟨q, its, bs, rfl, T, ra⟩ := read_tup (xs := xs.map (D.toP j)) r1
  have hlen := read_len ra
  rw [List.length_map] at hlen
  have hz := lim_line hl
  have h63 := line63
  exact len_tuple T (by rw [List.size_toArray]; omega) ⟨_, _, rfl, k1, fun k _ => ⟨[], by rw [List.size_toArray, hlen]; cases k <;> exact .int _ _⟩⟩
theorem kv_pair {a b : Expr} {n : Nat} {pos : Pos} {x y : D} (ha : KV (model prog w) A env h0 a x) (hb : KV (model prog w) A env h0 b y) (hs : isStar a = false) (hs2 : isStar b = false) : KV (model prog w) A env h0 (.Tuple [a, b] n pos) (.tup [x, y]) := by
  obtain ⟨⟨k1, q1⟩, ha⟩ := ha
  obtain ⟨⟨k2, q2⟩, hb⟩ := hb
  refine ⟨⟨max k1 k2 + 1, ?_⟩, fun s E hk => Tuple_ ?_⟩
  · simp only [D.dat, List.all_cons, List.all_nil, Bool.and_true, Bool.and_eq_true]
    exact ⟨dat_le q1 (by omega), dat_le q2 (by omega)⟩
  rw [starEach_cons hs, starEach_cons hs2]
  refine Calls.spliced_cons (wpAny_mono (ha s E hk) (fun v s1 h => ?_) fun _ _ e => e)
  obtain ⟨h1, t1, rfl, kp1, r1⟩ := h
  refine Calls.spliced_cons (wpAny_mono (hb _ E fun b o e => kp1 b o (hk b o e)) (fun u s2 h => ?_) fun _ _ e => e)
  obtain ⟨h2, t2, rfl, kp2, r2⟩ := h
  refine Calls.spliced_nil ?_
  refine wpAny_newObj_type ?_ (by show 2 ≤ sizeLine; decide)
  refine ⟨_, t2, rfl, fun b o e => Heap.get?_push_of_some _ (kp2 b o (kp1 b o e)), fun k q => ?_⟩
  obtain ⟨j, rfl, hj⟩ := dat_tup q
  obtain ⟨as, r1⟩ := r1 j (hj x (by simp))
  obtain ⟨bs, r2⟩ := r2 j (hj y (by simp))
  have K : Kp h2 (h2.push { cls := .type "tuple", data := .seq [v, u].toArray }) := fun b o e => Heap.get?_push_of_some _ e
  exact ⟨_, .tuple (Heap.get?_push_size _ rfl) rfl rfl (.cons (Reads.keeps (fun b o e => K b o (kp2 b o e)) r1) (.cons (Reads.keeps K r2) .nil))⟩
theorem kx_run (F : KF env h0 mg N sc x ρ d) : ∀ (kx : KX) (e : Expr) (r : D), kx.ok N sc x e = true → kx.ev ρ d = some r → kx.caps ρ = true → KV (model prog w) A env h0 e r
  | .par, e, r, ok, ev, cp => by
    cases e with
    | Name y p =>
      obtain ⟨o1, o2⟩ := and2 ok
      obtain ⟨o1, o3⟩ := and2 o1
      cases eq_of_beq o1
      cases ev
      exact kv_name F o3 o2
    | _ => cases ok
  | .cap i, e, r, ok, ev, cp => by
    cases e with
    | Name y p =>
      obtain ⟨o1, o2⟩ := and2 ok
      obtain ⟨o1, o3⟩ := and2 o1
      have ev : slotD ρ i = some r := ev
      have cp : (match slotD ρ i with | some e => D.dat dep e | none => false) = true := cp
      rw [ev] at cp
      exact kv_cap F (eq_of_beq o1) o3 o2 ev cp
    | _ => cases ok
  | .int i, e, r, ok, ev, cp => by
    cases e with
    | Constant c j p =>
      cases c with
      | int z =>
        cases eq_of_beq (show (i == z) = true from ok)
        cases ev
        exact kv_int
      | _ => cases ok
    | _ => cases ok
  | .sub a b, e, r, ok, ev, cp => by
    cases e with
    | BinOp l op q p =>
      cases op with
      | Sub =>
        obtain ⟨o1, o2⟩ := and2 ok
        obtain ⟨c1, c2⟩ := and2 (show (a.caps ρ && b.caps ρ) = true from cp)
        unfold KX.ev at ev
        split at ev
        · rename_i i j e1 e2
          cases ev
          exact kv_sub (kx_run F a l _ o1 e1 c1) (kx_run F b q _ o2 e2 c2)
        · cases ev
      | _ => cases ok
    | _ => cases ok
  | .ix a b, e, r, ok, ev, cp => by
    cases e with
    | Subscript l q p =>
      obtain ⟨c1, c2⟩ := and2 (show (a.caps ρ && b.caps ρ) = true from cp)
      unfold KX.ev at ev
      split at ev
      · rename_i xs i e1 e2
        split at ev
        · rename_i hl
          cases q with
          | Name y p2 =>
            obtain ⟨o1, o2⟩ := and2 ok
            exact kv_ix (kx_run F a l _ o1 e1 c1) (kx_run F b _ _ o2 e2 c2) hl ev (fun _ _ => rfl)
          | Constant c j p2 =>
            cases c with
            | int z =>
              obtain ⟨o1, o2⟩ := and2 ok
              exact kv_ix (kx_run F a l _ o1 e1 c1) (kx_run F b _ _ o2 e2 c2) hl ev (fun _ _ => rfl)
            | _ => cases ok
          | _ => cases ok
        · cases ev
      · cases ev
    | _ => cases ok
  | .len a, e, r, ok, ev, cp => by
    unfold KX.ok at ok
    split at ok <;> first | (cases ok; done) | skip
    all_goals try contradiction
    rename_i y p2 e2 p3 heq
    cases heq
    obtain ⟨ok, o4⟩ := and2 ok
    obtain ⟨ok, o3⟩ := and2 ok
    obtain ⟨o1, o2⟩ := and2 ok
    cases eq_of_beq o1
    unfold KX.ev at ev
    split at ev
    · rename_i xs e1
      split at ev
      · rename_i hl
        cases ev
        exact kv_len F o2 (kx_run F a _ _ o3 e1 cp) hl (by simpa using o4)
      · cases ev
    · cases ev
  | .pair a b, e, r, ok, ev, cp => by
    unfold KX.ok at ok
    split at ok <;> first | (cases ok; done) | skip
    all_goals try contradiction
    rename_i heq
    cases heq
    obtain ⟨ok, o4⟩ := and2 ok
    obtain ⟨ok, o3⟩ := and2 ok
    obtain ⟨o1, o2⟩ := and2 ok
    obtain ⟨c1, c2⟩ := and2 (show (a.caps ρ && b.caps ρ) = true from cp)
    unfold KX.ev at ev
    split at ev
    · rename_i x y e1 e2
      cases ev
      exact kv_pair (kx_run F a _ _ o1 e1 c1) (kx_run F b _ _ o2 e2 c2) (by simpa using o3) (by simpa using o4)
    · cases ev
end
end PD


set_option Elab.async false
set_option linter.all false
set_option maxRecDepth 100000
set_option maxHeartbeats 4000000
/-! PD16: lambdas are made; sorted by a lambda's key. -/
namespace PD
open PySem PySem.Spec PyProof.Rows L2 LamX NdefX
section
variable {X : Cx} {pins : List (Addr × Obj)} {σ : L2.St} {H : Hp} {s : Shared}
/-- a lambda is made: its code object is new, or found in the table -/
theorem lam_makeN {T : List NTab} {nm : Nat → Nat → Str} {c P : Addr} {params : Arguments} {body : Expr} {scope : Scope} {pos : Pos} {E : Value → Shared → Prop} {Q : Value → Shared → Prop} (I : Inv X pins σ H s) (TB : TabB X.base X.mg c P) (hcode : X.env.code = .ref c)
    (hm : (P, nm) ∈ T) (hn : nm pos.line pos.col = X.env.qual ++ "<lambda>") (hu : ∀ p ∈ T, p.1 = P → p.2 = nm) (hT : TabsN T H) (hdef : defaultsOf params X.env = ([], [])) (hfree : ∀ y ∈ scope.names, y.2 = .free → ∃ c, X.env.cells.lookup y.1 = some c)
    (h : ∀ (f c' : Addr) (pm ctv : Value) (H1 : Hp) (s' : Shared), Inv X pins σ H1 s' → ExtN H H1 → TabsN T H1 →
      s'.heap.get? f = some (PySem.W.kla_obj "<lambda>" (X.env.qual ++ "<lambda>") params body scope (cloFrom X.env.cells scope.names []) pm c' ctv) → H1 f = none → f ∉ frs X.stack → H1 c' = some (CodeO c' (X.env.qual ++ "<lambda>")) → Q (.ref f) s') :
    wpAny (model X.prog X.w) X.A (eval (.Lambda params body scope pos) X.env) Q E s := by
  obtain ⟨ps, hP, ht, ha⟩ := (show TabN H P nm from hT _ hm)
  refine PySem.W.kla_eval hdef ?_
  have bP : s.heap.BuiltinsAt X.mg P := TB.bm.keeps I.bk
  have hP' : s.heap.get? P = some { cls := .none, data := .fields ps } := I.hok P _ hP
  have nofr : ∀ f, s.heap.objs.size ≤ f → f ∉ frs X.stack := fun f hf z => by
    rcases List.mem_cons.mp (I.stkSub _ z) with e | e
    · have h1 := I.lt
      rw [← e] at h1
      exact Nat.lt_irrefl _ (Nat.lt_of_lt_of_le h1 hf)
    · exact I.nofs hf e
  cases hc : codeAmong pos ps.toList with
  | none =>
    refine PySem.W.kla_makeFunction (mg := X.mg) (c := c) (P := P) (ps := ps) (closure_ok hfree) I.ok.glob (I.mod.glob.keeps I.bk) hcode (TB.code.keeps I.bk) hP' ht hc TB.gP bP fun c' ctv h' tk hx hge hlt hrec htb => ?_
    obtain ⟨c2, oc, vs, t, e2, hoc, hd, hv⟩ := hrec
    cases e2
    have hsz : s.heap.objs.size ≤ h'.objs.size := Nat.le_trans hge (Nat.le_of_lt hlt)
    have nC : H c' = none := I.hok.fresh hge
    have I1 := inv_table (t' := tk) (more := #[rawInt pos.line, rawInt pos.col, .ref c']) (h' := h'.push (PySem.W.kla_obj "<lambda>" (X.env.qual ++ "<lambda>") params body scope (cloFrom X.env.cells scope.names []) ((X.mg "__name__").getD .none) c' ctv)) I hP
      (fun b o hb e => Heap.get?_push_of_some _ (hx b o hb e)) (Heap.get?_push_of_some _ htb) hge ⟨oc, vs, t, Heap.get?_push_of_some _ hoc, hd, hv⟩
    have hE : ExtN H (upd (upd H P (.tbl (ps ++ #[rawInt pos.line, rawInt pos.col, .ref c']))) c' (CodeO c' (X.env.qual ++ "<lambda>"))) := fun b o e n => by
      rw [upd_ne (ne_of_none e nC), upd_ne (fun z => n ps (Option.some.inj (e.symm.trans (by rw [z]; exact hP))))]
      exact e
    have eL : (ps ++ #[rawInt pos.line, rawInt pos.col, .ref c']).toList = ps.toList ++ [rawInt pos.line, rawInt pos.col, .ref c'] := by simp
    refine h h'.objs.size c' ((X.mg "__name__").getD .none) ctv _ _ I1 hE (fun p hp => ?_) (Heap.get?_push_size _ rfl) ?_ (nofr _ hsz) upd_same
    · by_cases hb : p.1 = P
      · rw [hu p hp hb, hb]
        refine ⟨_, by rw [upd_ne (ne_of_none hP nC), upd_same], by rw [eL]; exact PySem.TriplesOk_snoc _ _ _ _ ht, fun p' cv hcv => ?_⟩
        rw [eL] at hcv
        rcases among_app2 _ ht hcv with z | ⟨z, z1, z2⟩
        · obtain ⟨c0, e1, e2⟩ := ha p' cv z
          exact ⟨c0, e1, hE _ _ e2 codeO_ne⟩
        · refine ⟨c', z, ?_⟩
          rw [← z1, ← z2, hn]
          exact upd_same
      · obtain ⟨ps', a1, a2, a3⟩ := hT p hp
        refine ⟨ps', by rw [upd_ne (ne_of_none a1 nC), upd_ne hb]; exact a1, a2, fun p' cv hcv => ?_⟩
        obtain ⟨c0, e1, e2⟩ := a3 p' cv hcv
        exact ⟨c0, e1, hE _ _ e2 codeO_ne⟩
    · have n1 : h'.objs.size ≠ c' := Nat.ne_of_gt hlt
      have n2 : h'.objs.size ≠ P := Nat.ne_of_gt (Nat.lt_of_lt_of_le (Heap.lt_size hP') hsz)
      rw [upd_ne n1, upd_ne n2]
      exact I.hok.fresh hsz
  | some cv =>
    obtain ⟨c', e, hco⟩ := ha pos cv hc
    subst e
    rw [hn] at hco
    refine PySem.W.kla_makeFunctionHit (mg := X.mg) (c := c) (P := P) (ps := ps) (closure_ok hfree) I.ok.glob (I.mod.glob.keeps I.bk) hcode (TB.code.keeps I.bk) hP' ht hc bP fun ctv h' tk hx hsz => ?_
    have I1 : Inv X pins σ H { s with heap := h'.push (PySem.W.kla_obj "<lambda>" (X.env.qual ++ "<lambda>") params body scope (cloFrom X.env.cells scope.names []) ((X.mg "__name__").getD .none) c' ctv), toks := tk } := I.kept fun b o e => Heap.get?_push_of_some _ (hx b o e)
    exact h h'.objs.size c' ((X.mg "__name__").getD .none) ctv H _ I1 (ExtN.refl H) hT (Heap.get?_push_size _ rfl) (I.hok.fresh hsz) (nofr _ hsz) hco
end

/-! ### the key -/
def keyD (ρ : Env) (kx : KX) (d : D) : D := (kx.ev ρ d).getD .non
def keysOk (ρ : Env) (kx : KX) (ys : List D) : Bool := kx.caps ρ && ys.all (fun d => (kx.ev ρ d).isSome && D.dat dep d && D.dat dep (keyD ρ kx d) && nl dep (keyD ρ kx d)) && sortable (ys.map (keyD ρ kx))
def sortK (fa : MD) (kx : KX) : MD := fun ρ S => (fa ρ S).bind fun d S1 => match lstD S1 d with
  | some ys => guardR (keysOk ρ kx ys) (.ok (.lst (ys.mergeSort fun a b => PySem.W.dataLe false (fun d => D.toP dep (keyD ρ kx d)) a b)) S1)
  | none => .bad
/-- the lambda: one plain parameter, captured names of the maker -/
def keyLam (N : List Str) (sc : Scope) (params : Arguments) (body : Expr) (scope : Scope) (x : Str) (kx : KX) : Bool :=
  plainArgs params [x] && decide (scope.kind = .function) && !scope.isCoroutine && !scope.isGenerator && scope.names.all (fun y => !decide (y.2 = .cell)) && lk scope x .local &&
  scope.names.all (fun y => !decide (y.2 = .free) || lk sc y.1 .cell || lk sc y.1 .free) && kx.ok N scope x body && decide N.Nodup
section
variable {X : Cx} {B : Bs} {pins : List (Addr × Obj)} {σ : L2.St} {H : Hp} {s : Shared} {O L : List Addr} {S : Sto} {ρ : Env}
theorem kp_trans {h h' h'' : Heap} (a : Kp h h') (b : Kp h' h'') : Kp h h'' := fun c o e => b c o (a c o e)
theorem reads_rep {v : V} {u : Value} {e : D} {k : Nat} (hK : X.K = B.K) (I : Inv X pins σ H s) (r : Rep B L (hid (O ++ L) H) v e) (ru : RelV v u) (hd : D.dat k e = true) : ∃ as, Reads s.heap u (D.toP k e) as :=
  Dp.reads I _ v u (by rw [hK]; exact Rep.dp k e v hd r.full) ru
/-- one call of the key -/
theorem key_call {A : Around} {f c' : Addr} {params : Arguments} {body : Expr} {scope : Scope} {pm ctv : Value} {x : Str} {kx : KX} {d : D} {v : Value} {h : Heap} {tk : Nat} (hK : X.K = B.K) (I : Inv X pins σ H s) (st : StOk B O σ H ρ S L) (hf : s.heap.get? f = some (PySem.W.kla_obj "<lambda>" (X.env.qual ++ "<lambda>") params body scope (cloFrom X.env.cells scope.names []) pm c' ctv))
    (hc : H c' = some (CodeO c' (X.env.qual ++ "<lambda>"))) (ok : keyLam X.N X.env.scope params body scope x kx = true) (hlen : X.mg "len" = none) (hroom : A.depth < recursionLimit) (hcap : kx.caps ρ = true)
    (hd : D.dat dep d = true) (hk : (kx.ev ρ d).isSome = true) (hd2 : D.dat dep (keyD ρ kx d) = true) (hnl : nl dep (keyD ρ kx d) = true) (hv : ∃ as, Reads s.heap v (D.toP dep d) as) (kp : Kp s.heap h) :
    wpAny (model X.prog X.w) A (call (.ref f) [v]) (PySem.W.KeyPure (D.toP dep (keyD ρ kx d)) { s with heap := h, toks := tk }) (fun _ _ => False) { s with heap := h, toks := tk } := by
  unfold keyLam at ok
  simp only [Bool.and_eq_true, Bool.not_eq_true', decide_eq_true_eq, List.all_eq_true, Bool.or_eq_true, decide_eq_false_iff_not] at ok
  obtain ⟨⟨⟨⟨⟨⟨⟨⟨k1, k2⟩, k3⟩, k4⟩, k5⟩, k6⟩, k7⟩, k8⟩, k9⟩ := ok
  obtain ⟨⟨oc, vs, t, hoc, hdc, hvc⟩, _, _⟩ := I.hok c' _ hc
  have lim : s.heap.NoLimit := I.nolimit
  have hfree : ∀ y ∈ scope.names, y.2 = .free → ∃ c, X.env.cells.lookup y.1 = some c := fun y hy e => by
    rcases k7 y hy with (z | z) | z
    · exact absurd e z
    · exact I.ok.has _ (.inl (lk_of z))
    · exact I.ok.has _ (.inr (lk_of z))
  refine wpAny_call (PySem.W.kla_callFunE (body := body) hroom (kp _ _ hf) rfl k3 k4 rfl ⟨c', oc, vs, t, rfl, kp _ _ hoc, hdc, hvc⟩ ?_)
  have hb := bind_perm (fd := PySem.W.kla_fn "<lambda>" (X.env.qual ++ "<lambda>") params body scope (cloFrom X.env.cells scope.names []) pm (.ref c') ctv) (ks := []) (ws := []) k1 rfl rfl (idPerm (ps := [x]) (by simp)) (us := [v]) rfl rfl
  have hb : bindArgs (PySem.W.kla_fn "<lambda>" (X.env.qual ++ "<lambda>") params body scope (cloFrom X.env.cells scope.names []) pm (.ref c') ctv) ⟨[v], []⟩ = pure ([x].zip [v]) := hb
  rw [hb]
  refine wpAny_pure (wpAny_newFunctionEnv (fun y hy => by simpa using k5 y hy) (fun y hy => by
    have e : y = (x, v) := by simpa using hy
    rw [e]
    exact lk_of k6) (fun h₁ hns hsb => ⟨(lim.keeps kp).fresh _ hsb, ?_⟩) k2)
  have kp1 : Kp h h₁ := fun b o e => hsb.extBut b o (Nat.ne_of_lt (Heap.lt_size e)) (Heap.get?_push_of_some _ e)
  have kps := kp_trans kp kp1
  show codeAny _ _ (.expr body (PySem.W.envX (X.env.qual ++ "<lambda>") scope h.objs.size f (.ref c') (cloFrom X.env.cells scope.names []))) _ _
  obtain ⟨r, hr⟩ := Option.isSome_iff_exists.mp hk
  have er : keyD ρ kx d = r := by unfold keyD; rw [hr]; rfl
  rw [er] at hd2 hnl ⊢
  have F : KF (PySem.W.envX (X.env.qual ++ "<lambda>") scope h.objs.size f (.ref c') (cloFrom X.env.cells scope.names [])) h₁ X.mg X.N scope x ρ d := by
    refine ⟨rfl, k2, ⟨_, v, hns, by simp [List.lookup], ⟨_, hd⟩, fun k q => ?_⟩, fun i y e hi hy hs ⟨k0, hk0⟩ => ?_, I.mod.glob.keeps fun b o e => kps b o (I.bk b o e), hlen, ?_⟩
    · obtain ⟨as, rd⟩ := hv
      rw [toP_eq k dep d q hd]
      exact ⟨as, Reads.keeps kps rd⟩
    · obtain ⟨v', h1, h2⟩ := st.env i e (slotD_some hs)
      have hmem : (y, NameKind.free) ∈ scope.names := PySem.mem_of_lookup hy
      have hk7 : X.env.scope.names.lookup y = some .cell ∨ X.env.scope.names.lookup y = some .free := by
        rcases k7 _ hmem with (z | z) | z
        · exact absurd rfl z
        · exact .inl (lk_of z)
        · exact .inr (lk_of z)
      obtain ⟨m, hn, hl⟩ := I.loc
      obtain ⟨u, ru, lo⟩ := hl i y v' hi h1 (hk7.elim (fun z => .inr (.inl z)) fun z => .inr (.inr z))
      rcases lo with ⟨z, _⟩ | ⟨_, c, hcl, hcell⟩
      · have z' : X.env.scope.names.lookup y = some .local := z
        rcases hk7 with k | k <;> rw [k] at z' <;> cases z'
      · refine ⟨c, u, clo_has hfree hmem hcl, hcell.keeps kps, fun k q => ?_⟩
        obtain ⟨as, rd⟩ := reads_rep hK I h2 ru q
        exact ⟨as, Reads.keeps kps rd⟩
    · obtain ⟨mb, b1, b2⟩ := I.mod.blt
      refine ⟨mb, b1.keeps fun b o e => kps b o (I.bk b o e), ?_⟩
      rw [b2 _ (by decide)]
      rfl
  refine PySem.W.kla_codeExpr (wpAny_mono ((kx_run (prog := X.prog) (w := X.w) F kx body r k8 hr hcap).2 _ _ (fun _ _ e => e)) (fun u s' hq => ?_) fun e s' hq => hq)
  obtain ⟨h', tk', rfl, kp2, rd⟩ := hq
  obtain ⟨as, rd⟩ := rd dep hd2
  have e0 := nl_reads dep r u as hnl hd2 rd
  subst e0
  exact ⟨h', tk', rfl, kp_trans kp1 kp2, rd⟩
end
section
variable {tx : Text} {G : G0} {k : Nat} {sem csem : Nat → MF} {N : List Str} {sc : Scope} {own : Str → Bool} {X : Cx} {e : Expr} {fa : MD} {x : Str} {p pos kpos lpos : Pos}
variable (g : Good tx G k sem csem N sc own X)
include g
theorem Good.kl {params : Arguments} {body : Expr} {scope : Scope} {kx : KX} (h : keyLam N sc params body scope x kx = true) : keyLam X.N X.env.scope params body scope x kx = true := by
  rw [g.eN, g.eS]
  exact h
/-- sorted(e, key=lambda x: ..) -/
theorem g_sortK {nm : Nat → Nat → Str} {cd P : Addr} {q : Str} {params : Arguments} {body : Expr} {scope : Scope} {kx : KX} (TB : TabB G.base G.mg cd P) (hcode : X.env.code = .ref cd) (hq : X.env.qual = q) (hm : (P, nm) ∈ G.B.tabs) (hn : nm lpos.line lpos.col = q ++ "<lambda>") (hu : ∀ p ∈ G.B.tabs, p.1 = P → p.2 = nm)
    (h : (freB tx sc "sorted" && tx.free.contains "len") = true) (ha : PE X e (tD G.B fa)) (hs : isStar e = false) (hdef : ∀ env, defaultsOf params env = ([], [])) (hkl : keyLam N sc params body scope x kx = true) :
    PE X (.Call (.Name "sorted" p) [e] [⟨some "key", .Lambda params body scope lpos, kpos⟩] pos) (tD G.B (sortK fa kx)) := by
  obtain ⟨h, hl⟩ := and2 h
  obtain ⟨h1, h2, h3⟩ := g.fre h
  have hlen : X.mg "len" = none := by
    rw [g.mg]
    exact g.tab.free "len" (by simpa using hl)
  have hkl' := g.kl hkl
  have hfree : ∀ y ∈ scope.names, y.2 = .free → X.env.scope.names.lookup y.1 = some .cell ∨ X.env.scope.names.lookup y.1 = some .free := fun y hy z => by
    unfold keyLam at hkl'
    simp only [Bool.and_eq_true, List.all_eq_true, Bool.or_eq_true, Bool.not_eq_true', decide_eq_false_iff_not] at hkl'
    rcases hkl'.1.1.2 y hy with (w | w) | w
    · exact absurd z w
    · exact .inl (lk_of w)
    · exact .inr (lk_of w)
  refine ⟨fun pins s σ H Q I hw => ?_⟩
  obtain ⟨ρ, S, O, L, st, hw⟩ := hw
  unfold sortK at hw
  rw [R.sat_bind] at hw
  refine wpAny_Call_Name_kw (ld_blt I h1 h2 (show bootBuiltins "sorted" = some (.builtin "sorted") by rfl) ?_ (by decide) (by decide))
  have hA : tA G.B (consL fa nilL) σ H fun vs H1 => ∃ d S1 L1 v ys, vs = [v] ∧ StOk G.B O σ H1 ρ S1 L1 ∧ Ext O L H L1 H1 ∧ Rep G.B L1 (hid (O ++ L1) H1) v d ∧ lstD S1 d = some ys ∧ keysOk ρ kx ys = true ∧ Post G.B O L H Q (.lst (ys.mergeSort fun a b => PySem.W.dataLe false (fun d => D.toP dep (keyD ρ kx d)) a b)) S1 := by
    refine ⟨ρ, S, O, L, st, ?_⟩
    unfold consL nilL
    rw [R.sat_bind]
    refine R.sat_mono hw fun d S1 q => ?_
    intro vs H1 L1 e1 r1 o1 t1
    obtain ⟨v, rfl, r2⟩ := reps1 r1
    split at q
    · rename_i ys hy
      obtain ⟨hz, q⟩ := sat_guard.mp q
      exact ⟨d, S1, L1, v, ys, rfl, st.ext e1 o1 t1, e1, r2, hy, hz, q⟩
    · exact q.elim
  have hPA : PA X [e] (tA G.B (consL fa nilL)) := ga_cons ha da_nil hs
  refine PyProof.Rows.callWith_kw (thn (hPA.run pos pins s σ H _ I hA) fun us s1 ⟨vs, H1, I1, r1, q1⟩ => ?_) (by rw [starEach_cons hs]; rfl) (by rw [starEach_cons hs]; rfl) (by rfl) (by rfl)
  obtain ⟨d, S1, L1, v, ys, rfl, st1, e1, rd, hy, hz, post⟩ := q1
  obtain ⟨u, rfl, ru⟩ := vals1 r1
  show wpAny _ _ (evalAll [do let v ← eval (.Lambda params body scope lpos) X.env; standAt pos; pure v]) _ _ s1
  refine wpAny_evalAll_cons (wpAny_bind (lam_makeN I1 (by rw [g.base, g.mg]; exact TB) hcode hm (by rw [hq]; exact hn) hu st1.tab (hdef _) (fun y hy z => (hfree y hy z).elim (fun w => I1.ok.has _ (.inl w)) fun w => I1.ok.has _ (.inr w)) fun f c' pm ctv H2 s2 I2 eN t2 hf hfn hfr hco => ?_))
  refine wpAny_bind (wpAny_standAt (wpAny_pure (wpAny_evalAll_nil ?_)))
  obtain ⟨x2, st2⟩ := st1.extN eN t2
  have rd2 := rd.ext x2
  obtain ⟨a, ws, rfl, hl1, hr1⟩ := lst_of st2.sto rd2 hy
  obtain rfl : u = Value.ref a := ru
  obtain ⟨its, rv, pl, hlz⟩ := I2.list (a := a) (xs := ws) (.inl hl1)
  unfold keysOk at hz
  obtain ⟨hz, hsb⟩ := and2 hz
  obtain ⟨hcap, hall⟩ := and2 hz
  rw [List.all_eq_true] at hall
  have hall : ∀ d ∈ ys, (kx.ev ρ d).isSome = true ∧ D.dat dep d = true ∧ D.dat dep (keyD ρ kx d) = true ∧ nl dep (keyD ρ kx d) = true := fun d hd => by
    obtain ⟨a1, a2, a3, a4⟩ := and4 (hall d hd)
    exact ⟨a1, a2, a3, a4⟩
  obtain ⟨q1, q2, q3⟩ := sortable_of hsb
  rw [List.map_map] at q2 q3
  have hlen2 := hr1.length
  have hu2 := g.hu
  refine PySem.W.sorted_key_data (b := false) (fun d => D.toP dep (keyD ρ kx d)) pl.isList (each_vals rv hr1) q2 q3 (by omega) (fun z hz => ?_) (PyProof.Rows.ksk_s1 _ _) (fun _ => PyProof.Rows.ksk_l1 _ _) (fun _ => PyProof.Rows.ksk_t1 _ _) (fun v z ⟨v', rv', rz⟩ hz h tk kp => ?_) fun out c h' tk kp hnone hD hol he => ?_
  · have := (dat_lay dep _ (hall z hz).2.2.1).2
    unfold dep at *
    omega
  · exact key_call g.K I2 st2 hf hco hkl' hlen (by have := g.room.dp; show X.A.depth < recursionLimit; omega) hcap (hall z hz).2.1 (hall z hz).1 (hall z hz).2.2.1 (hall z hz).2.2.2 (reads_rep g.K I2 rz rv' (hall z hz).2.1) kp
  · obtain ⟨ws2, rw2, rr⟩ := each_reps he
    have hlw : ws2.length ≤ sizeLine := by
      rw [rw2.length, hol]
      omega
    refine ⟨.ref _, upd H2 (s2.heap.objs.size + 1) (.lst ws2), I2.laid (t' := tk) kp (Nat.le_succ _) ⟨hlw, out, c, rw2, hD⟩, rfl, ?_⟩
    exact Post.newL (Post.ext post (e1.trans x2)) st2.sto st2.tab rr (I2.hok.fresh (Nat.le_succ _))
end
end PD


set_option Elab.async false
set_option linter.all false
set_option maxRecDepth 100000
set_option maxHeartbeats 4000000
/-! PM1: how readings run: the pure side. -/
namespace PD
open PySem

/-! ### slots -/
@[simp] theorem slotD_zero (o : Option D) (r : Env) : slotD (o :: r) 0 = o := by cases o <;> rfl
@[simp] theorem slotD_succ (o : Option D) (r : Env) (i : Nat) : slotD (o :: r) (i + 1) = slotD r i := by exact rfl
@[simp] theorem slotM_ap (i : Nat) (ρ : Env) (S : Sto) : slotM i ρ S = lift (slotD ρ i) S := by exact rfl
@[simp] theorem conM_ap (d : D) (ρ : Env) (S : Sto) : conM d ρ S = .ok d S := by exact rfl
@[simp] theorem m2_ap (fa fb : MD) (sem : D → D → Sto → R D) (ρ : Env) (S : Sto) : m2 fa fb sem ρ S = (fa ρ S).bind fun x S1 => (fb ρ S1).bind fun y S2 => sem x y S2 := by exact rfl
@[simp] theorem m1_ap (fa : MD) (sem : D → Sto → R D) (ρ : Env) (S : Sto) : m1 fa sem ρ S = (fa ρ S).bind fun x S1 => sem x S1 := by exact rfl
@[simp] theorem mL_ap (fa : ML) (sem : List D → Sto → R D) (ρ : Env) (S : Sto) : mL fa sem ρ S = (fa ρ S).bind fun x S1 => sem x S1 := by exact rfl
@[simp] theorem nilL_ap (ρ : Env) (S : Sto) : nilL ρ S = .ok [] S := by exact rfl
@[simp] theorem consL_ap (fa : MD) (fr : ML) (ρ : Env) (S : Sto) : consL fa fr ρ S = (fa ρ S).bind fun x S1 => (fr ρ S1).bind fun xs S2 => .ok (x :: xs) S2 := by exact rfl
@[simp] theorem starL_ap (fa : MD) (fr : ML) (ρ : Env) (S : Sto) : starL fa fr ρ S = (fa ρ S).bind fun x S1 => (lift (seqD S1 x) S1).bind fun ys S2 => (fr ρ S2).bind fun xs S3 => .ok (ys ++ xs) S3 := by exact rfl
@[simp] theorem truM_ap (f : MD) (ρ : Env) (S : Sto) : truM f ρ S = (f ρ S).bind fun d S1 => lift (truD S1 d) S1 := by exact rfl
@[simp] theorem notM_ap (f : MD) (ρ : Env) (S : Sto) : notM f ρ S = (truM f ρ S).bind fun k S1 => .ok (.bl (!k)) S1 := by exact rfl
@[simp] theorem boolM_ap (b : Bool) (fa fb : MD) (ρ : Env) (S : Sto) : boolM b fa fb ρ S = (fa ρ S).bind fun x S1 => (lift (truD S1 x) S1).bind fun k S2 => if k == b then fb ρ S2 else .ok x S2 := by exact rfl
@[simp] theorem iteM_ap (c a b : MD) (ρ : Env) (S : Sto) : iteM c a b ρ S = (truM c ρ S).bind fun k S1 => if k = true then a ρ S1 else b ρ S1 := by exact rfl
@[simp] theorem sliceM_ap (fa : MD) (fl fh : MO') (ρ : Env) (S : Sto) : sliceM fa fl fh ρ S = (fa ρ S).bind fun x S1 => (fl ρ S1).bind fun lo S2 => (fh ρ S2).bind fun hi S3 => sliceS x lo hi S3 := by exact rfl
@[simp] theorem noneO_ap (ρ : Env) (S : Sto) : noneO ρ S = .ok none S := by exact rfl
@[simp] theorem isiM_ap (T : String) (fa : MD) (ρ : Env) (S : Sto) : isiM T fa ρ S = (fa ρ S).bind fun d S1 => match tyD S1 d with
  | some a => .ok (.bl (isiB a T)) S1
  | none => .bad := by exact rfl
@[simp] theorem callS_ap (f : MF) (ar : Nat) (xs : List D) (S : Sto) : callS f ar xs S = guardR (decide (xs.length = ar)) (f xs S) := by exact rfl
@[simp] theorem callK_ap (f : MF) (ar : Nat) (pm : List Nat) (fr fk : ML) (ρ : Env) (S : Sto) : callK f ar pm fr fk ρ S = (fr ρ S).bind fun xs S1 => (fk ρ S1).bind fun ys S2 => guardR (decide (xs.length + ys.length = ar ∧ (pick pm (xs ++ ys)).length = ar)) (f (pick pm (xs ++ ys)) S2) := by exact rfl
@[simp] theorem seqS_ap (f g : MS) (ρ : Env) (S : Sto) : seqS f g ρ S = (f ρ S).bind fun fl S1 => match fl with
  | .nx ρ1 => g ρ1 S1
  | fl => .ok fl S1 := by exact rfl
@[simp] theorem nextS_ap (ρ : Env) (S : Sto) : nextS ρ S = .ok (.nx ρ) S := by exact rfl
@[simp] theorem exprS_ap (fe : MD) (ρ : Env) (S : Sto) : exprS fe ρ S = (fe ρ S).bind fun _ S1 => .ok (.nx ρ) S1 := by exact rfl
@[simp] theorem retS_ap (fe : MD) (ρ : Env) (S : Sto) : retS fe ρ S = (fe ρ S).bind fun d S1 => .ok (.rt d) S1 := by exact rfl
@[simp] theorem retNS_ap (ρ : Env) (S : Sto) : retNS ρ S = .ok (.rt .non) S := by exact rfl
@[simp] theorem ifS_ap (c : MD) (f g : MS) (ρ : Env) (S : Sto) : ifS c f g ρ S = (truM c ρ S).bind fun k S1 => if k = true then f ρ S1 else g ρ S1 := by exact rfl
@[simp] theorem asgS_ap (fe : MD) (fg : ME) (ρ : Env) (S : Sto) : asgS fe fg ρ S = (fe ρ S).bind fun d S1 => (fg d ρ S1).bind fun ρ1 S2 => .ok (.nx ρ1) S2 := by exact rfl
@[simp] theorem parS_ap (is : List Nat) (fr : ML) (ρ : Env) (S : Sto) : parS is fr ρ S = (fr ρ S).bind fun ds S1 => (setAll is ds ρ S1).bind fun ρ1 S2 => .ok (.nx ρ1) S2 := by exact rfl
@[simp] theorem setE_ap (i : Nat) (d : D) (ρ : Env) (S : Sto) : setE i d ρ S = guardR (decide (i < ρ.length)) (.ok (ρ.set i (some d)) S) := by exact rfl
@[simp] theorem setAll_nil (ρ : Env) (S : Sto) : setAll [] [] ρ S = .ok ρ S := by exact rfl
@[simp] theorem setAll_cons (i : Nat) (is : List Nat) (d : D) (ds : List D) (ρ : Env) (S : Sto) : setAll (i :: is) (d :: ds) ρ S = guardR (decide (i < ρ.length)) (setAll is ds (ρ.set i (some d)) S) := by exact rfl
@[simp] theorem nilE_ap (ρ : Env) (S : Sto) : nilE [] ρ S = .ok ρ S := by exact rfl
@[simp] theorem consE_ap (f : ME) (g : MEs) (d : D) (r : List D) (ρ : Env) (S : Sto) : consE f g (d :: r) ρ S = (f d ρ S).bind fun ρ1 S1 => g r ρ1 S1 := by exact rfl
@[simp] theorem tupE_ap (n : Nat) (f : MEs) (xs : List D) (ρ : Env) (S : Sto) : tupE n f (.tup xs) ρ S = guardR (decide (xs.length = n)) (f xs ρ S) := by exact rfl
@[simp] theorem forS_ap (fi : ML) (fg : ME) (fb : MS) (ρ : Env) (S : Sto) : forS fi fg fb ρ S = (fi ρ S).bind fun ds S1 => forL fg fb ds ρ S1 := by exact rfl
@[simp] theorem compM_ap (vs : List Nat) (fi : ML) (fg : ME) (ft : MB) (fe : MD) (ρ : Env) (S : Sto) : compM vs fi fg ft fe ρ S = (fi ρ S).bind fun ds S1 => (compL fg ft fe ds (wipeE ρ vs) S1).bind fun ys S2 => .ok (.lst ys) S2 := by exact rfl
@[simp] theorem wipeE_nil (ρ : Env) : wipeE ρ [] = ρ := by exact rfl
@[simp] theorem wipeE_cons (ρ : Env) (v : Nat) (vs : List Nat) : wipeE ρ (v :: vs) = (wipeE ρ vs).set v none := by exact rfl
@[simp] theorem yesM_ap (ρ : Env) (S : Sto) : yesM ρ S = .ok true S := by exact rfl
@[simp] theorem ndefS_ap (i j : Nat) (ρ : Env) (S : Sto) : ndefS i j ρ S = guardR (decide (i < ρ.length)) (.ok (.nx (ρ.set i (some (.clo j)))) S) := by exact rfl
@[simp] theorem runS_ap (n : Nat) (fb : MS) (ds : List D) (S : Sto) : runS n fb ds S = (fb (ds.map some ++ List.replicate (n - ds.length) none) S).bind fun fl S1 => match fl with
  | .rt d => .ok d S1
  | .nx _ => .ok .non S1
  | _ => .bad := by exact rfl
/-! ### operators on what is known -/
@[simp] theorem add_int (i j : Int) (S : Sto) : addS (.int i) (.int j) S = .ok (.int (i + j)) S := by exact rfl
@[simp] theorem intS_int (g : Int → Int → Option Int) (i j : Int) (S : Sto) : intS g (.int i) (.int j) S = match g i j with
  | some k => .ok (.int k) S
  | none => .bad := by exact rfl
theorem add_tup (a b : List D) (S : Sto) : addS (.tup a) (.tup b) S = guardR (decide (a.length + b.length ≤ lim)) (.ok (.tup (a ++ b)) S) := by exact rfl
theorem add_lst (a b : List D) (S : Sto) : addS (.lst a) (.lst b) S = guardR (decide (a.length + b.length ≤ lim)) (.ok (.lst (a ++ b)) S) := by exact rfl
@[simp] theorem der_tup (S : Sto) (xs : List D) : der S (.tup xs) = .tup xs := by exact rfl
@[simp] theorem der_lst (S : Sto) (xs : List D) : der S (.lst xs) = .lst xs := by exact rfl
@[simp] theorem der_int (S : Sto) (i : Int) : der S (.int i) = .int i := by exact rfl
@[simp] theorem der_bl (S : Sto) (i : Bool) : der S (.bl i) = .bl i := by exact rfl
@[simp] theorem der_non (S : Sto) : der S .non = .non := by exact rfl
@[simp] theorem truD_bl (S : Sto) (b : Bool) : truD S (.bl b) = some b := by exact rfl
@[simp] theorem seqD_tup (S : Sto) (xs : List D) : seqD S (.tup xs) = some xs := by exact rfl
@[simp] theorem seqD_lst (S : Sto) (xs : List D) : seqD S (.lst xs) = some xs := by exact rfl
@[simp] theorem seqD_scr (S : Sto) (xs : List D) : seqD S (.scr xs) = some xs := by exact rfl
@[simp] theorem lstD_lst (S : Sto) (xs : List D) : lstD S (.lst xs) = some xs := by exact rfl
@[simp] theorem flatD_lst (xs : List D) : flatD (.lst xs) = some xs := by exact rfl
@[simp] theorem flatD_tup (xs : List D) : flatD (.tup xs) = some xs := by exact rfl
/-! ### data -/
@[simp] theorem dat_int (k : Nat) (i : Int) : D.dat k (.int i) = true := by cases k <;> rfl
@[simp] theorem dat_bl (k : Nat) (i : Bool) : D.dat k (.bl i) = true := by cases k <;> rfl
@[simp] theorem dat_non (k : Nat) : D.dat k .non = true := by cases k <;> rfl
@[simp] theorem toP_int (k : Nat) (i : Int) : D.toP k (.int i) = .int i := by cases k <;> rfl
@[simp] theorem toP_bl (k : Nat) (i : Bool) : D.toP k (.bl i) = .bool i := by cases k <;> rfl
@[simp] theorem toP_non (k : Nat) : D.toP k .non = .none := by cases k <;> rfl
@[simp] theorem dat_tup' (k : Nat) (xs : List D) : D.dat (k + 1) (.tup xs) = xs.all (D.dat k) := by exact rfl
@[simp] theorem dat_lst' (k : Nat) (xs : List D) : D.dat (k + 1) (.lst xs) = xs.all (D.dat k) := by exact rfl
@[simp] theorem toP_tup (k : Nat) (xs : List D) : D.toP (k + 1) (.tup xs) = .tuple (xs.map (D.toP k)) := by exact rfl
@[simp] theorem toP_lst (k : Nat) (xs : List D) : D.toP (k + 1) (.lst xs) = .list (xs.map (D.toP k)) := by exact rfl
theorem ordD_int (i j : Int) : ordD (.int i) (.int j) = true := by
  unfold ordD dep
  simp [PySem.W.alike, isNonP]
theorem dataLt_int (i j : Int) : PySem.W.dataLt (.int i) (.int j) = decide (i < j) := by
  have h := PySem.W.dataLe_int (fun x : Int => x)
  have := congrFun (congrFun h j) i
  rw [PySem.W.dataLe_eq] at this
  simp only [cond] at this
  have h2 : PySem.W.dataLt (.int i) (.int j) = !decide (j ≤ i) := by rw [← this]; simp
  rw [h2]
  by_cases q : i < j <;> simp [q] <;> omega
@[simp] theorem lt_int (i j : Int) (S : Sto) : ltS (.int i) (.int j) S = .ok (.bl (decide (i < j))) S := by
  unfold ltS cmpS
  simp [ordD_int, dataLt_int]
@[simp] theorem gt_int (i j : Int) (S : Sto) : gtS (.int i) (.int j) S = .ok (.bl (decide (j < i))) S := by
  unfold gtS cmpS
  simp [ordD_int, dataLt_int]
@[simp] theorem le_int (i j : Int) (S : Sto) : leS (.int i) (.int j) S = .ok (.bl (decide (i ≤ j))) S := by
  have e : decide (i ≤ j) = !decide (j < i) := by by_cases q : j < i <;> simp [q] <;> omega
  unfold leS cmpS
  simp [ordD_int, dataLt_int, e]
@[simp] theorem ge_int (i j : Int) (S : Sto) : geS (.int i) (.int j) S = .ok (.bl (decide (j ≤ i))) S := by
  have e : decide (j ≤ i) = !decide (i < j) := by by_cases q : i < j <;> simp [q] <;> omega
  unfold geS cmpS
  simp [ordD_int, dataLt_int, e]
theorem eqv_int (i j : Int) : PyData.eqv (.int i) (.int j) = decide (i = j) := by
  unfold PyData.eqv
  by_cases q : i = j <;> simp [q]
/-! ### == -/
mutual
theorem eqv_refl : ∀ (k : Nat) (d : D), D.dat k d = true → PyData.eqv (D.toP k d) (D.toP k d) = true
  | k, .non, _ => by cases k <;> simp [PyData.eqv]
  | k, .bl b, _ => by cases k <;> simp [PyData.eqv]
  | k, .int b, _ => by cases k <;> simp [PyData.eqv]
  | k, .str b, _ => by cases k <;> simp [D.toP, PyData.eqv]
  | k + 1, .tup xs, h => by
    simp only [toP_tup, PyData.eqv]
    exact eqvAll_refl k xs (by simpa using h)
  | k + 1, .lst xs, h => by
    simp only [toP_lst, PyData.eqv]
    exact eqvAll_refl k xs (by simpa using h)
  | 0, .tup xs, h => by cases h
  | 0, .lst xs, h => by cases h
  | k, .fn _, h => by cases k <;> cases h
  | k, .clo _, h => by cases k <;> cases h
  | k, .loc _, h => by cases k <;> cases h
  | k, .scr _, h => by cases k <;> cases h
theorem eqvAll_refl : ∀ (k : Nat) (xs : List D), (∀ d ∈ xs, D.dat k d = true) → PyData.eqvAll (xs.map (D.toP k)) (xs.map (D.toP k)) = true
  | _, [], _ => by simp [PyData.eqvAll]
  | k, d :: ds, h => by
    simp only [List.map_cons, PyData.eqvAll, Bool.and_eq_true]
    exact ⟨eqv_refl k d (h d List.mem_cons_self), eqvAll_refl k ds fun z hz => h z (List.mem_cons_of_mem _ hz)⟩
end
theorem eq_nilL (xs : List D) : eqD (.lst xs) (.lst []) = xs.isEmpty := by
  unfold eqD dep
  cases xs <;> simp [PyData.eqv, PyData.eqvAll]
theorem eq_nilT (xs : List D) : eqD (.tup xs) (.tup []) = xs.isEmpty := by
  unfold eqD dep
  cases xs <;> simp [PyData.eqv, PyData.eqvAll]
theorem eq_int (i j : Int) : eqD (.int i) (.int j) = decide (i = j) := by
  unfold eqD
  simp [eqv_int]
end PD


set_option Elab.async false
set_option linter.all false
set_option maxRecDepth 100000
set_option maxHeartbeats 4000000
namespace PM
open PySem PD
def fuel : Nat := 1000
def r_is_whole : MS := (seqS (retS (boolM true (isiM "int" (slotM 0)) (notM (isiM "bool" (slotM 0))))) nextS)
def r_is_number (F_is_whole : MF) : MS := (seqS (ifS (boolM false (notM (mL (consL (slotM 0) nilL) (callS F_is_whole 1))) (boolM true (m2 (slotM 1) (conM .non) (isNoneS true)) (m2 (slotM 0) (slotM 1) ltS))) (seqS (retS (conM (.bl false))) nextS) nextS) (seqS (retS (boolM false (m2 (slotM 2) (conM .non) (isNoneS false)) (m2 (slotM 0) (slotM 2) leS))) nextS))
def r_wrong_at (gC : Nat → Option (Nat × MF)) (gF : Nat → Option (Nat × MF)) : MS := (seqS (ifS (notM (isiM "tuple" (slotM 0))) (seqS (retS (mL (consL (conM .non) nilL) lstS)) nextS) nextS) (seqS (forS (enumI (consL (slotM 0) nilL)) (tupE 2 (consE (setE 2) (consE (setE 3) nilE))) (seqS (ifS (notM (callV gF gC 1 (consL (slotM 3) (consL (sliceM (slotM 0) noneO (someO (slotM 2))) nilL)))) (seqS (retS (mL (consL (slotM 2) nilL) lstS)) nextS) nextS) nextS)) (seqS (retS (mL nilL lstS)) nextS)))
def r_wrong_or_none (F_wrong_at : MF) : MS := (seqS (retS (iteM (boolM true (isiM "tuple" (slotM 0)) (m2 (slotM 0) (mL nilL tupS) (cmpS bothD eqD))) (mL (consL (conM .non) nilL) lstS) (mL (consL (slotM 0) (consL (slotM 1) nilL)) (callS F_wrong_at 2)))) nextS)
def r_is_height (F_is_number : MF) : MS := (seqS (retS (mL (consL (slotM 0) (consL (conM (.int 0)) (consL (conM (.int 999)) nilL))) (callS F_is_number 3))) nextS)
def r_wrong_row (F_wrong_or_none : MF) (c_is_right : Nat) : MS := (seqS (ndefS 1 c_is_right) (seqS (retS (mL (consL (slotM 0) (consL (slotM 1) nilL)) (callS F_wrong_or_none 2))) nextS))
def r_bars_between : MS := (seqS (asgS (mL (consL (m2 (slotM 0) (slotM 1) idxS) (consL (m2 (slotM 0) (slotM 2) idxS) nilL)) (minS false)) (setE 3)) (seqS (retS (compM [4] (rng2 (consL (m2 (slotM 1) (conM (.int 1)) addS) (consL (slotM 2) nilL))) (setE 4) (truM (m2 (m2 (slotM 0) (slotM 4) idxS) (slotM 3) geS)) (slotM 4))) nextS))
def r_do_see_in (F_bars_between : MF) : MS := (seqS (retS (m2 (mL (consL (slotM 0) (consL (slotM 1) (consL (slotM 2) nilL))) (callS F_bars_between 3)) (mL nilL lstS) (cmpS bothD eqD))) nextS)
def r_pairs_of_all : MS := (seqS (retS (compM2 [1, 2] [2] (rng1 (consL (slotM 0) nilL)) (setE 1) yesM (rng2 (consL (m2 (slotM 1) (conM (.int 1)) addS) (consL (slotM 0) nilL))) (setE 2) yesM (mL (consL (slotM 1) (consL (slotM 2) nilL)) tupS))) nextS)
def r_sights_of (F_do_see_in : MF) (F_pairs_of_all : MF) : MS := (seqS (retS (mL (consL (compM [1] (seqI (mL (consL (mL (consL (slotM 0) nilL) lenS) nilL) (callS F_pairs_of_all 1))) (setE 1) (truM (mL (consL (slotM 0) (consL (m2 (slotM 1) (conM (.int 0)) idxS) (consL (m2 (slotM 1) (conM (.int 1)) idxS) nilL))) (callS F_do_see_in 3))) (slotM 1)) nilL) tupleS)) nextS)
def r_taller_beside : MS := (seqS (asgS (compM [3] (rng1 (consL (slotM 1) nilL)) (setE 3) (truM (m2 (m2 (slotM 0) (slotM 3) idxS) (m2 (slotM 0) (slotM 1) idxS) gtS)) (slotM 3)) (setE 2)) (seqS (asgS (compM [3] (rng2 (consL (m2 (slotM 1) (conM (.int 1)) addS) (consL (mL (consL (slotM 0) nilL) lenS) nilL))) (setE 3) (truM (m2 (m2 (slotM 0) (slotM 3) idxS) (m2 (slotM 0) (slotM 1) idxS) gtS)) (slotM 3)) (setE 4)) (seqS (retS (mL (consL (sliceM (slotM 2) (someO (m1 (conM (.int 1)) negS)) noneO) (consL (sliceM (slotM 4) noneO (someO (conM (.int 1)))) nilL)) tupS)) nextS)))
def r_next_up_of (F_taller_beside : MF) : MS := (seqS (asgS (mL (consL (slotM 0) (consL (slotM 1) nilL)) (callS F_taller_beside 2)) (tupE 2 (consE (setE 2) (consE (setE 3) nilE)))) (seqS (retS (sliceM (sortK (m2 (slotM 2) (slotM 3) addS) (KX.ix (KX.cap 0) KX.par)) noneO (someO (conM (.int 1))))) nextS))
def r_check_number (F_is_number : MF) : MS := (seqS (ifS (notM (mL (consL (slotM 0) (consL (slotM 1) (consL (slotM 2) nilL))) (callS F_is_number 3))) (seqS badS nextS) nextS) nextS)
def r_check_any_number (F_check_number : MF) : MS := (seqS (exprS (mL (consL (slotM 0) (consL (conM (.int 0)) (consL (conM .non) nilL))) (callS F_check_number 3))) nextS)
def r_check_row (F_wrong_row : MF) : MS := (seqS (forS (seqI (mL (consL (slotM 0) nilL) (callS F_wrong_row 1))) (setE 1) (seqS badS nextS)) nextS)
def r_check_person_of (F_check_any_number : MF) : MS := (seqS (exprS (mL (consL (slotM 1) nilL) (callS F_check_any_number 1))) (seqS (ifS (m2 (slotM 1) (slotM 0) geS) (seqS badS nextS) nextS) nextS))
def r_check_person (F_check_person_of : MF) (F_check_row : MF) : MS := (seqS (exprS (mL (consL (slotM 0) nilL) (callS F_check_row 1))) (seqS (exprS (mL (consL (mL (consL (slotM 0) nilL) lenS) (consL (slotM 1) nilL)) (callS F_check_person_of 2))) nextS))
def r_climb_of (F_next_up_of : MF) : MS := (seqS (asgS (mL (consL (slotM 1) nilL) newS) (setE 2)) (seqS (fun ρ S => whileL (m2 (mL (consL (slotM 0) (consL (m2 (slotM 2) (m1 (conM (.int 1)) negS) idxS) nilL)) (callS F_next_up_of 2)) (mL nilL lstS) (cmpS bothD fun x y => !eqD x y)) (seqS (exprS (appM (slotM 2) (m2 (mL (consL (slotM 0) (consL (m2 (slotM 2) (m1 (conM (.int 1)) negS) idxS) nilL)) (callS F_next_up_of 2)) (conM (.int 0)) idxS))) nextS) fuel ρ S) (seqS (retS (mL (consL (slotM 2) nilL) tupleS)) nextS)))
def r_next_up (F_check_person : MF) (F_next_up_of : MF) : MS := (seqS (exprS (mL (consL (slotM 0) (consL (slotM 1) nilL)) (callS F_check_person 2))) (seqS (retS (m2 (mL (starL (mL (consL (slotM 0) (consL (slotM 1) nilL)) (callS F_next_up_of 2)) (consL (conM .non) nilL)) lstS) (conM (.int 0)) idxS)) nextS))
def r_climb (F_check_person : MF) (F_climb_of : MF) : MS := (seqS (exprS (mL (consL (slotM 0) (consL (slotM 1) nilL)) (callS F_check_person 2))) (seqS (retS (mL (consL (slotM 0) (consL (slotM 1) nilL)) (callS F_climb_of 2))) nextS))
def r_depths (F_check_row : MF) (F_climb_of : MF) : MS := (seqS (exprS (mL (consL (slotM 0) nilL) (callS F_check_row 1))) (seqS (retS (mL (consL (compM [1] (rng1 (consL (mL (consL (slotM 0) nilL) lenS) nilL)) (setE 1) yesM (m2 (mL (consL (mL (consL (slotM 0) (consL (slotM 1) nilL)) (callS F_climb_of 2)) nilL) lenS) (conM (.int 1)) (intS fun i j => some (i - j)))) nilL) tupleS)) nextS))
def r_looks_to_left (F_sights_of : MF) : MS := (seqS (asgS (mL (consL (slotM 0) nilL) (callS F_sights_of 1)) (setE 1)) (seqS (retS (mL (consL (compM [4] (rng1 (consL (mL (consL (slotM 0) nilL) lenS) nilL)) (setE 4) yesM (mL (consL (compM [2, 3] (seqI (slotM 1)) (tupE 2 (consE (setE 2) (consE (setE 3) nilE))) (truM (m2 (slotM 3) (slotM 4) (cmpS bothD eqD))) (conM (.int 1))) nilL) lenS)) nilL) tupleS)) nextS))
def r_looks_to_right (F_sights_of : MF) : MS := (seqS (asgS (mL (consL (slotM 0) nilL) (callS F_sights_of 1)) (setE 1)) (seqS (retS (mL (consL (compM [4] (rng1 (consL (mL (consL (slotM 0) nilL) lenS) nilL)) (setE 4) yesM (mL (consL (compM [2, 3] (seqI (slotM 1)) (tupE 2 (consE (setE 2) (consE (setE 3) nilE))) (truM (m2 (slotM 2) (slotM 4) (cmpS bothD eqD))) (conM (.int 1))) nilL) lenS)) nilL) tupleS)) nextS))
def r_looks_left (F_check_row : MF) (F_looks_to_left : MF) : MS := (seqS (exprS (mL (consL (slotM 0) nilL) (callS F_check_row 1))) (seqS (retS (mL (consL (slotM 0) nilL) (callS F_looks_to_left 1))) nextS))
def r_looks_right (F_check_row : MF) (F_looks_to_right : MF) : MS := (seqS (exprS (mL (consL (slotM 0) nilL) (callS F_check_row 1))) (seqS (retS (mL (consL (slotM 0) nilL) (callS F_looks_to_right 1))) nextS))
def r_seen_left (F_check_person : MF) (F_do_see_in : MF) : MS := (seqS (exprS (mL (consL (slotM 0) (consL (slotM 1) nilL)) (callS F_check_person 2))) (seqS (retS (mL (consL (compM [2] (rng1 (consL (slotM 1) nilL)) (setE 2) (truM (mL (consL (slotM 0) (consL (slotM 2) (consL (slotM 1) nilL))) (callS F_do_see_in 3))) (slotM 2)) nilL) tupleS)) nextS))
def r__law_well : MS := (seqS (asgS (m2 (conM (.int 130577)) (m2 (conM (.int 7013)) (slotM 1) (intS gMul)) addS) (setE 2)) (seqS (forS (seqI (sliceM (slotM 0) noneO (someO (conM (.int 12))))) (setE 3) (seqS (asgS (m2 (mL (consL (m2 (m2 (m2 (slotM 2) (conM (.int 45281)) (intS gMul)) (m2 (mL (consL (slotM 3) nilL) intS1) (conM (.int 2147483549)) (intS gMod)) addS) (conM (.int 19)) addS) nilL) intS1) (conM (.int 2147483563)) (intS gMod)) (setE 2)) nextS)) (seqS (asgS (iteM (m2 (slotM 1) (mL (consL (slotM 0) nilL) lenS) ltS) (mL (consL (m2 (slotM 0) (slotM 1) idxS) nilL) intS1) (conM (.int 0))) (setE 4)) (seqS (asgS (m2 (mL (consL (m2 (m2 (m2 (slotM 2) (conM (.int 41)) (intS gMul)) (m2 (m2 (mL (consL (slotM 4) nilL) intS1) (conM (.int 2147483549)) (intS gMod)) (conM (.int 15031)) (intS gMul)) addS) (conM (.int 5)) addS) nilL) intS1) (conM (.int 2147483563)) (intS gMod)) (setE 2)) (seqS (retS (mL (consL (iteM (boolM false (m2 (slotM 4) (conM (.int 0)) ltS) (m2 (slotM 4) (m2 (conM (.int 10)) (conM (.int 15)) (intS gPow)) geS)) (mL (consL (slotM 4) nilL) absS) (conM (.int 0))) (consL (slotM 2) (consL (conM (.int 0)) nilL))) newS)) nextS)))))
def r__law_draw : MS := (seqS (ifS (m2 (m2 (slotM 0) (conM (.int 0)) idxS) (conM (.int 0)) gtS) (seqS (asgS (mL (consL (m2 (slotM 0) (conM (.int 0)) idxS) (consL (slotM 1) nilL)) divmodS) (tupE 2 (consE (setIx (slotM 0) (conM (.int 0))) (consE (setE 2) nilE)))) (seqS (retS (slotM 2)) nextS)) nextS) (seqS (asgS (m2 (m2 (slotM 0) (conM (.int 2)) idxS) (conM (.int 1)) addS) (setIx (slotM 0) (conM (.int 2)))) (seqS (asgS (m2 (mL (consL (m2 (m2 (m2 (m2 (slotM 0) (conM (.int 1)) idxS) (conM (.int 40037)) (intS gMul)) (m2 (conM (.int 13001)) (m2 (slotM 0) (conM (.int 2)) idxS) (intS gMul)) addS) (conM (.int 7)) addS) nilL) intS1) (conM (.int 2147483563)) (intS gMod)) (setE 3)) (seqS (asgS (m2 (mL (consL (m2 (m2 (slotM 3) (m2 (m2 (mL (consL (slotM 3) nilL) intS1) (conM (.int 5009)) (intS gMod)) (conM (.int 20023)) addS) (intS gMul)) (m2 (slotM 0) (conM (.int 2)) idxS) addS) nilL) intS1) (conM (.int 2147483563)) (intS gMod)) (setIx (slotM 0) (conM (.int 1)))) (seqS (retS (m2 (mL (consL (m2 (m2 (slotM 0) (conM (.int 1)) idxS) (conM (.int 1013)) (intS gDiv)) nilL) intS1) (slotM 1) (intS gMod))) nextS)))))
def r__law_of (F__law_draw : MF) : MS := (seqS (retS (m2 (slotM 1) (mL (consL (slotM 0) (consL (mL (consL (slotM 1) nilL) lenS) nilL)) (callS F__law_draw 2)) idxS)) nextS)
def r__law_same (F__law_same : MF) : MS := (seqS (ifS (boolM true (isiM "tuple" (slotM 0)) (isiM "tuple" (slotM 1))) (seqS (retS (boolM true (m2 (mL (consL (slotM 0) nilL) lenS) (mL (consL (slotM 1) nilL) lenS) (cmpS bothD eqD)) (mL (consL (compM [2] (rng1 (consL (mL (consL (slotM 0) nilL) lenS) nilL)) (setE 2) yesM (mL (consL (m2 (slotM 0) (slotM 2) idxS) (consL (m2 (slotM 1) (slotM 2) idxS) nilL)) (callS F__law_same 2))) nilL) (allS false)))) nextS) nextS) (seqS (ifS (boolM false (m2 (isiM "bool" (slotM 0)) (isiM "bool" (slotM 1)) (cmpS bothD fun x y => !eqD x y)) (m2 (isiM "int" (slotM 0)) (isiM "int" (slotM 1)) (cmpS bothD fun x y => !eqD x y))) (seqS (retS (conM (.bl false))) nextS) nextS) (seqS (retS (boolM true (m2 (isiM "tuple" (slotM 0)) (isiM "tuple" (slotM 1)) (cmpS bothD eqD)) (m2 (slotM 0) (slotM 1) (cmpS bothD eqD)))) nextS)))
def r__law_row (F__law_draw : MF) (F__law_of : MF) : MS := (seqS (parS [3, 4, 5] (consL (m2 (slotM 1) (mL (consL (slotM 0) (consL (m2 (m2 (slotM 2) (slotM 1) (intS fun i j => some (i - j))) (conM (.int 1)) addS) nilL)) (callS F__law_draw 2)) addS) (consL (mL (consL (slotM 0) (consL (mL (consL (conM (.int 13)) (consL (conM (.int 13)) (consL (conM (.int 40)) (consL (conM (.int 1000)) nilL)))) tupS) nilL)) (callS F__law_of 2)) (consL (mL nilL tupS) nilL)))) (seqS (forS (rng1 (consL (slotM 3) nilL)) (setE 6) (seqS (asgS (mL (consL (slotM 0) (consL (slotM 4) nilL)) (callS F__law_draw 2)) (setE 7)) (seqS (forS (rng1 (consL (conM (.int 14)) nilL)) (setE 8) (seqS (asgS (iteM (m2 (slotM 7) (slotM 5) ninS) (slotM 7) (mL (consL (m2 (m2 (slotM 7) (conM (.int 1)) addS) (slotM 4) (intS gMod)) nilL) intS1)) (setE 7)) nextS)) (seqS (asgS (m2 (slotM 5) (mL (consL (slotM 7) nilL) tupS) addS) (setE 5)) nextS)))) (seqS (retS (slotM 5)) nextS)))
def r__law_bars : MS := (seqS (asgS (mL (consL (m2 (slotM 0) (slotM 1) idxS) (consL (m2 (slotM 0) (slotM 2) idxS) nilL)) (minS false)) (setE 3)) (seqS (retS (mL (consL (compM [4] (rng2 (consL (m2 (mL (consL (slotM 1) (consL (slotM 2) nilL)) (minS false)) (conM (.int 1)) addS) (consL (mL (consL (slotM 1) (consL (slotM 2) nilL)) (minS true)) nilL))) (setE 4) (truM (m2 (m2 (slotM 0) (slotM 4) idxS) (slotM 3) gtS)) (slotM 4)) nilL) tupleS)) nextS))
def r__law_seen (F__law_bars : MF) : MS := (seqS (retS (mL (consL (compM [2] (rng1 (consL (mL (consL (slotM 0) nilL) lenS) nilL)) (setE 2) (truM (boolM true (m2 (slotM 2) (slotM 1) (cmpS bothD fun x y => !eqD x y)) (m2 (mL (consL (slotM 0) (consL (slotM 1) (consL (slotM 2) nilL))) (callS F__law_bars 3)) (mL nilL tupS) (cmpS bothD eqD)))) (slotM 2)) nilL) tupleS)) nextS)
def r__law_covers : MS := (seqS (asgS (compM [3] (rng1 (consL (slotM 1) nilL)) (setE 3) (truM (m2 (m2 (slotM 0) (slotM 3) idxS) (m2 (slotM 0) (slotM 1) idxS) gtS)) (slotM 3)) (setE 2)) (seqS (asgS (compM [3] (rng2 (consL (m2 (slotM 1) (conM (.int 1)) addS) (consL (mL (consL (slotM 0) nilL) lenS) nilL))) (setE 3) (truM (m2 (m2 (slotM 0) (slotM 3) idxS) (m2 (slotM 0) (slotM 1) idxS) gtS)) (slotM 3)) (setE 4)) (seqS (retS (mL (consL (iteM (m2 (slotM 2) (mL nilL lstS) (cmpS bothD fun x y => !eqD x y)) (m2 (slotM 2) (m1 (conM (.int 1)) negS) idxS) (conM .non)) (consL (iteM (m2 (slotM 4) (mL nilL lstS) (cmpS bothD fun x y => !eqD x y)) (m2 (slotM 4) (conM (.int 0)) idxS) (conM .non)) nilL)) tupS)) nextS)))
def r__law_up (F__law_covers : MF) : MS := (seqS (asgS (compM [3] (seqI (mL (consL (slotM 0) (consL (slotM 1) nilL)) (callS F__law_covers 2))) (setE 3) (truM (m2 (slotM 3) (conM .non) (isNoneS true))) (slotM 3)) (setE 2)) (seqS (retS (iteM (m2 (slotM 2) (mL nilL lstS) (cmpS bothD fun x y => !eqD x y)) (m2 (mL (consL (compM [3] (seqI (slotM 2)) (setE 3) yesM (mL (consL (m2 (slotM 0) (slotM 3) idxS) (consL (slotM 3) nilL)) tupS)) nilL) (minS false)) (conM (.int 1)) idxS) (conM .non))) nextS))
def r__law_climb (F__law_up : MF) : MS := (seqS (asgS (mL (consL (slotM 1) nilL) tupS) (setE 2)) (seqS (forS (rng1 (consL (mL (consL (slotM 0) nilL) lenS) nilL)) (setE 3) (seqS (asgS (mL (consL (slotM 0) (consL (m2 (slotM 2) (m1 (conM (.int 1)) negS) idxS) nilL)) (callS F__law_up 2)) (setE 4)) (seqS (asgS (m2 (slotM 2) (iteM (m2 (slotM 4) (conM .non) (isNoneS true)) (mL (consL (slotM 4) nilL) tupS) (mL nilL tupS)) addS) (setE 2)) nextS))) (seqS (retS (slotM 2)) nextS)))
def r_law (F__law_right : MF) (F__law_well : MF) : MS := (seqS (asgS (compM [2] (rng1 (consL (conM (.int 2)) nilL)) (setE 2) yesM (mL (consL (slotM 0) (consL (slotM 2) nilL)) (callS F__law_well 2))) (setE 1)) (seqS (retS (mL (consL (compM [3] (rng1 (consL (conM (.int 24)) nilL)) (setE 3) yesM (mL (consL (m2 (slotM 1) (m2 (mL (consL (slotM 3) nilL) intS1) (conM (.int 2)) (intS gMod)) idxS) nilL) (callS F__law_right 1))) nilL) (allS false))) nextS))
def r_is_right (F_is_height : MF) : MS := (seqS (retS (boolM true (m2 (mL (consL (slotM 1) nilL) lenS) (conM (.int 12)) ltS) (boolM true (mL (consL (slotM 0) nilL) (callS F_is_height 1)) (m2 (slotM 0) (slotM 1) ninS)))) nextS)
end PM


set_option Elab.async false
set_option linter.all false
set_option maxRecDepth 100000
set_option maxHeartbeats 4000000
/-! PM2: comprehensions and loops that change no place; rows. -/
namespace PD
open PySem

theorem compL_eq {fg : ME} {ft : MB} {fe : MD} {ρ : Env} {S : Sto} {p : D → Bool} {g : D → D} : ∀ (ds : List D), (∀ d ∈ ds, ∃ ρ1, fg d ρ S = .ok ρ1 S ∧ ft ρ1 S = .ok (p d) S ∧ (p d = true → fe ρ1 S = .ok (g d) S)) → compL fg ft fe ds ρ S = .ok ((ds.filter p).map g) S
  | [], _ => rfl
  | d :: ds, h => by
    obtain ⟨ρ1, h1, h2, h3⟩ := h d List.mem_cons_self
    have ih := compL_eq ds fun z hz => h z (List.mem_cons_of_mem _ hz)
    unfold compL
    rw [h1]
    simp only [R.bind_ok]
    rw [h2]
    simp only [R.bind_ok]
    cases e : p d with
    | true =>
      simp only [if_true]
      rw [h3 e]
      simp only [R.bind_ok]
      rw [ih]
      simp [List.filter_cons, e]
    | false =>
      simp only [Bool.false_eq_true, if_false]
      rw [ih]
      simp [List.filter_cons, e]
/-- a, .. , b - 1 -/
def up (a b : Nat) : List Nat := List.range' a (b - a)
theorem mem_up {a b i : Nat} : i ∈ up a b ↔ a ≤ i ∧ i < b := by
  unfold up
  rw [List.mem_range'_1]
  omega
theorem rngD_up (a b : Nat) : rngD (a : Int) (b : Int) = (up a b).map fun (i : Nat) => D.int (i : Int) := by
  unfold rngD up
  rw [show ((b : Int) - (a : Int)).toNat = b - a by omega, List.range'_eq_map_range, List.map_map]
  exact List.map_congr_left fun i _ => by simp
theorem filter_map' {α β : Type} (f : α → β) (p : β → Bool) (l : List α) : (l.map f).filter p = (l.filter fun x => p (f x)).map f := by
  rw [List.filter_map]
  rfl
/-- over a range, the target a name -/
theorem compR {v : Nat} {ft : MB} {fe : MD} {ρ : Env} {S : Sto} (p : Nat → Bool) (g : Nat → D) {a b : Nat} (hv : v < ρ.length) (h : ∀ i, a ≤ i → i < b → ft (ρ.set v (some (.int (i : Int)))) S = .ok (p i) S ∧ (p i = true → fe (ρ.set v (some (.int (i : Int)))) S = .ok (g i) S)) :
    compL (setE v) ft fe (rngD a b) ρ S = .ok (((up a b).filter p).map g) S := by
  rw [rngD_up]
  have key : ∀ l : List Nat, (∀ i ∈ l, a ≤ i ∧ i < b) → compL (setE v) ft fe (l.map fun (i : Nat) => D.int (i : Int)) ρ S = .ok ((l.filter p).map g) S := by
    intro l
    induction l with
    | nil => intro _; rfl
    | cons i l ih =>
      intro hl
      have ih := ih fun j hj => hl j (List.mem_cons_of_mem _ hj)
      obtain ⟨h1, h2⟩ := h i (hl i List.mem_cons_self).1 (hl i List.mem_cons_self).2
      simp only [List.map_cons]
      unfold compL
      simp only [setE_ap, hv, decide_true, guardR_true, R.bind_ok]
      rw [h1]
      simp only [R.bind_ok]
      cases e : p i with
      | true =>
        simp only [if_true]
        rw [h2 e]
        simp only [R.bind_ok]
        rw [ih]
        simp [List.filter_cons, e]
      | false =>
        simp only [Bool.false_eq_true, if_false]
        rw [ih]
        simp [List.filter_cons, e]
  exact key _ fun i hi => mem_up.mp hi
theorem comp_map {v : Nat} {ft : MB} {fe : MD} {ρ : Env} {S : Sto} {α : Type} (f : α → D) (p : α → Bool) (g : α → D) (l : List α) (hv : v < ρ.length) (h : ∀ x ∈ l, ft (ρ.set v (some (f x))) S = .ok (p x) S ∧ (p x = true → fe (ρ.set v (some (f x))) S = .ok (g x) S)) :
    compL (setE v) ft fe (l.map f) ρ S = .ok ((l.filter p).map g) S := by
  induction l with
  | nil => rfl
  | cons i l ih =>
    have ih := ih fun j hj => h j (List.mem_cons_of_mem _ hj)
    obtain ⟨h1, h2⟩ := h i List.mem_cons_self
    simp only [List.map_cons]
    unfold compL
    simp only [setE_ap, hv, decide_true, guardR_true, R.bind_ok]
    rw [h1]
    simp only [R.bind_ok]
    cases e : p i with
    | true =>
      simp only [if_true]
      rw [h2 e]
      simp only [R.bind_ok]
      rw [ih]
      simp [List.filter_cons, e]
    | false =>
      simp only [Bool.false_eq_true, if_false]
      rw [ih]
      simp [List.filter_cons, e]
def rngOk1 (n : Int) : Bool := smallI n && decide ((n - 0).toNat ≤ lim)
def rngOk2 (m n : Int) : Bool := smallI m && smallI n && decide ((n - m).toNat ≤ lim)
@[simp] theorem rng1_ap (fr : ML) (ρ : Env) (S : Sto) : rng1 fr ρ S = (fr ρ S).bind fun xs S1 => match xs with
  | [.int n] => guardR (rngOk1 n) (.ok (rngD 0 n) S1)
  | _ => .bad := by exact rfl
@[simp] theorem rng2_ap (fr : ML) (ρ : Env) (S : Sto) : rng2 fr ρ S = (fr ρ S).bind fun xs S1 => match xs with
  | [.int m, .int n] => guardR (rngOk2 m n) (.ok (rngD m n) S1)
  | _ => .bad := by exact rfl
theorem small_int {i : Int} (h : -1000001 ≤ i) (h2 : i ≤ 1000001) : smallI i = true := by
  unfold smallI
  simp
  omega
theorem rok1 {n : Nat} (h : n ≤ lim) : rngOk1 (n : Int) = true := by
  unfold rngOk1
  unfold lim at h
  rw [small_int (by omega) (by omega)]
  have : ((n : Int) - 0).toNat ≤ lim := by unfold lim; omega
  rw [decide_eq_true this]
  rfl
theorem rok2 {m n : Nat} (hm : m ≤ lim) (h : n ≤ lim) : rngOk2 (m : Int) (n : Int) = true := by
  unfold rngOk2
  unfold lim at h hm
  rw [small_int (by omega) (by omega), small_int (by omega) (by omega)]
  have : ((n : Int) - (m : Int)).toNat ≤ lim := by unfold lim; omega
  rw [decide_eq_true this]
  rfl
theorem rok2s {m n : Nat} (hm : m ≤ lim) (h : n ≤ lim) : rngOk2 ((m : Int) + 1) (n : Int) = true := by
  unfold rngOk2
  unfold lim at h hm
  rw [small_int (by omega) (by omega), small_int (by omega) (by omega)]
  have : ((n : Int) - ((m : Int) + 1)).toNat ≤ lim := by unfold lim; omega
  rw [decide_eq_true this]
  rfl
theorem compR0 {v : Nat} {ft : MB} {fe : MD} {ρ : Env} {S : Sto} (p : Nat → Bool) (g : Nat → D) {b : Nat} (hv : v < ρ.length) (h : ∀ i, i < b → ft (ρ.set v (some (.int (i : Int)))) S = .ok (p i) S ∧ (p i = true → fe (ρ.set v (some (.int (i : Int)))) S = .ok (g i) S)) :
    compL (setE v) ft fe (rngD 0 b) ρ S = .ok (((up 0 b).filter p).map g) S := compR p g (a := 0) hv fun i _ hi => h i hi
theorem compR1 {v : Nat} {ft : MB} {fe : MD} {ρ : Env} {S : Sto} (p : Nat → Bool) (g : Nat → D) {a b : Nat} (hv : v < ρ.length) (h : ∀ i, a < i → i < b → ft (ρ.set v (some (.int (i : Int)))) S = .ok (p i) S ∧ (p i = true → fe (ρ.set v (some (.int (i : Int)))) S = .ok (g i) S)) :
    compL (setE v) ft fe (rngD ((a : Int) + 1) b) ρ S = .ok (((up (a + 1) b).filter p).map g) S := compR p g (a := a + 1) hv fun i hi => h i hi
/-! ### rows -/
abbrev nD (i : Nat) : D := .int (i : Int)
def rowD (r : List Int) : D := .tup (r.map D.int)
def ht (r : List Int) (i : Nat) : Int := r.getD i 0
theorem ht_eq {r : List Int} {i : Nat} (h : i < r.length) : ht r i = r[i]'h := by simp [ht, List.getD, h]
theorem atI_nat {α : Type} (xs : List α) (i : Nat) : L2.atI xs (i : Int) = xs[i]? := by
  unfold L2.atI L2.ixN
  by_cases h : i < xs.length
  · rw [if_pos (by omega), if_pos (by omega)]
    rfl
  · rw [if_pos (by omega), if_neg (by omega), List.getElem?_eq_none (by omega)]
    rfl
theorem atI_last {α : Type} (xs : List α) : L2.atI xs (-1) = xs.getLast? := by
  unfold L2.atI L2.ixN
  rw [if_neg (by omega), List.getLast?_eq_getElem?]
  by_cases h : xs.length = 0
  · rw [if_neg (by omega), List.getElem?_eq_none (by omega)]
    rfl
  · rw [if_pos (by omega)]
    show xs[(-1 + (xs.length : Int)).toNat]? = _
    congr 1
    omega
@[simp] theorem idx_nat (xs : List D) (i : Nat) (S : Sto) : idxS (.tup xs) (nD i) S = lift xs[i]? S := by
  show lift (L2.atI xs (i : Int)) S = _
  rw [atI_nat]
@[simp] theorem idx_natL (xs : List D) (i : Nat) (S : Sto) : idxS (.lst xs) (nD i) S = lift xs[i]? S := by
  show lift (L2.atI xs (i : Int)) S = _
  rw [atI_nat]
theorem row_at (r : List Int) (i : Nat) (h : i < r.length) : (r.map D.int)[i]? = some (.int (ht r i)) := by
  rw [List.getElem?_map, List.getElem?_eq_getElem h]
  simp [ht, List.getD, h]
theorem idx_row (r : List Int) (i : Nat) (S : Sto) (h : i < r.length) : idxS (rowD r) (nD i) S = .ok (.int (ht r i)) S := by
  unfold rowD
  rw [idx_nat, row_at r i h]
  rfl
theorem len_row (r : List Int) (S : Sto) : lenS [rowD r] S = .ok (nD r.length) S := by
  simp [lenS, rowD, nD]
theorem dat_row (r : List Int) (k : Nat) : D.dat (k + 1) (rowD r) = true := by
  simp [rowD]
structure RowOk (r : List Int) : Prop where
  ne : r ≠ []
  le : r.length ≤ 12
  nd : r.Nodup
  lo : ∀ h ∈ r, 0 ≤ h ∧ h ≤ 999
/-! ### == of known lists -/
theorem eqS_nilL (xs : List D) (S : Sto) (h : D.dat 20 (.lst xs) = true) : cmpS bothD eqD (.lst xs) (.lst []) S = .ok (.bl xs.isEmpty) S := by
  unfold cmpS bothD
  simp only [der_lst, dep, h, eq_nilL]
  rfl
theorem eqS_nilT (xs : List D) (S : Sto) (h : D.dat 20 (.tup xs) = true) : cmpS bothD eqD (.tup xs) (.tup []) S = .ok (.bl xs.isEmpty) S := by
  unfold cmpS bothD
  simp only [der_tup, dep, h, eq_nilT]
  rfl
theorem neS_nilL (xs : List D) (S : Sto) (h : D.dat 20 (.lst xs) = true) : cmpS bothD (fun x y => !eqD x y) (.lst xs) (.lst []) S = .ok (.bl (!xs.isEmpty)) S := by
  unfold cmpS bothD
  simp only [der_lst, dep, h, eq_nilL]
  rfl
theorem eqS_int (i j : Int) (S : Sto) : cmpS bothD eqD (.int i) (.int j) S = .ok (.bl (decide (i = j))) S := by
  unfold cmpS bothD
  simp [eq_int]
theorem neS_int (i j : Int) (S : Sto) : cmpS bothD (fun x y => !eqD x y) (.int i) (.int j) S = .ok (.bl (!decide (i = j))) S := by
  unfold cmpS bothD
  simp [eq_int]
@[simp] theorem lstS_ap (xs : List D) (S : Sto) : lstS xs S = guardR (decide (xs.length ≤ lim)) (.ok (.lst xs) S) := by exact rfl
@[simp] theorem tupS_ap (xs : List D) (S : Sto) : tupS xs S = guardR (decide (xs.length ≤ lim)) (.ok (.tup xs) S) := by exact rfl
@[simp] theorem le_lim0 : decide (([] : List D).length ≤ lim) = true := by decide
theorem guard_true {α : Type} {b : Bool} {r : R α} (h : b = true) : guardR b r = r := by rw [h]; rfl
theorem lim1 : 1 ≤ lim := by decide
theorem lim12 {n : Nat} (h : n ≤ 12) : n ≤ lim := by
  unfold lim
  omega
@[simp] theorem isNone_non (b : Bool) (S : Sto) : isNoneS b .non .non S = .ok (.bl (if b then false else true)) S := by cases b <;> rfl
@[simp] theorem isNone_int (b : Bool) (i : Int) (S : Sto) : isNoneS b (.int i) .non S = .ok (.bl (if b then true else false)) S := by cases b <;> rfl
@[simp] theorem tyD_int (S : Sto) (i : Int) : tyD S (.int i) = some "int" := by exact rfl
@[simp] theorem tyD_tup (S : Sto) (i : List D) : tyD S (.tup i) = some "tuple" := by exact rfl
@[simp] theorem tyD_bl (S : Sto) (i : Bool) : tyD S (.bl i) = some "bool" := by exact rfl
@[simp] theorem tyD_non (S : Sto) : tyD S .non = some "NoneType" := by exact rfl
/-- a for by an invariant of the turn -/
theorem forL_inv {fg : ME} {fb : MS} (P : Nat → Env → Sto → Prop) : ∀ (ds : List D) (k : Nat) (ρ : Env) (S : Sto), P k ρ S →
    (∀ i d ρ S, ds[i]? = some d → P (k + i) ρ S → ∃ ρ' S', ((fg d ρ S).bind fun ρ1 S1 => fb ρ1 S1) = .ok (.nx ρ') S' ∧ P (k + i + 1) ρ' S') → ∃ ρ' S', forL fg fb ds ρ S = .ok (.nx ρ') S' ∧ P (k + ds.length) ρ' S'
  | [], k, ρ, S, h, _ => ⟨ρ, S, rfl, h⟩
  | d :: ds, k, ρ, S, h, st => by
    obtain ⟨ρ1, S1, e1, h1⟩ := st 0 d ρ S rfl h
    obtain ⟨ρ2, S2, e2, h2⟩ := forL_inv P ds (k + 1) ρ1 S1 h1 fun i d ρ S hd hp => by
      have q := st (i + 1) d ρ S (by simpa using hd) (by rw [show k + (i + 1) = k + 1 + i by omega]; exact hp)
      rw [show k + 1 + i + 1 = k + (i + 1) + 1 by omega]
      exact q
    refine ⟨ρ2, S2, ?_, by rw [List.length_cons, show k + (ds.length + 1) = k + 1 + ds.length by omega]; exact h2⟩
    unfold forL
    cases q : fg d ρ S with
    | ok ρ3 S3 =>
      rw [q] at e1
      simp only [R.bind_ok] at e1 ⊢
      rw [e1]
      exact e2
    | exc x S3 => rw [q] at e1; cases e1
    | bad => rw [q] at e1; cases e1
theorem cut_to (xs : List D) (k : Nat) : cutD xs none (some (k : Int)) = xs.take k := by
  unfold cutD
  rw [HT.sIx_nat, HT.sIx_none, List.drop_zero, Nat.sub_zero]
  by_cases h : k ≤ xs.length
  · rw [Nat.min_eq_left h]
  · rw [Nat.min_eq_right (by omega), List.take_length, List.take_of_length_le (by omega)]
theorem cut_from (xs : List D) (k : Nat) : cutD xs (some (k : Int)) none = xs.drop k := by
  unfold cutD
  rw [HT.sIx_nat, HT.sIx_none]
  by_cases h : k ≤ xs.length
  · rw [Nat.min_eq_left h]
    exact List.take_of_length_le (by rw [List.length_drop]; omega)
  · rw [Nat.min_eq_right (by omega), List.drop_of_length_le (Nat.le_refl _), List.drop_of_length_le (by omega), List.take_nil]
theorem cut_last (xs : List D) : cutD xs (some (-1)) none = xs.drop (xs.length - 1) := by
  unfold cutD
  rw [HT.sIx_none]
  have e : HT.sIx xs.length 0 (some (-1)) = xs.length - 1 := by
    have q : HT.sIx xs.length 0 (some (-1)) = if (-1 : Int) < 0 then ((-1 : Int) + (xs.length : Int)).toNat else min (-1 : Int).toNat xs.length := rfl
    rw [q, if_pos (by omega)]
    omega
  rw [e]
  exact List.take_of_length_le (by rw [List.length_drop]; omega)
@[simp] theorem sl_tup (xs : List D) (lo hi : Option Int) (S : Sto) : sliceS (.tup xs) lo hi S = .ok (.tup (cutD xs lo hi)) S := by exact rfl
@[simp] theorem sl_lst (xs : List D) (lo hi : Option Int) (S : Sto) : sliceS (.lst xs) lo hi S = .ok (.lst (cutD xs lo hi)) S := by exact rfl
@[simp] theorem sl_scr (xs : List D) (lo hi : Option Int) (S : Sto) : sliceS (.scr xs) lo hi S = .ok (.lst (cutD xs lo hi)) S := by exact rfl
theorem someO_ap (f : MD) (ρ : Env) (S : Sto) : someO f ρ S = (f ρ S).bind fun d S1 => match d with
  | .int i => .ok (some i) S1
  | _ => .bad := by exact rfl
@[simp] theorem enumI_ap (fr : ML) (ρ : Env) (S : Sto) : enumI fr ρ S = (fr ρ S).bind fun xs S1 => match xs with
  | [d] => (lift (flatD d) S1).bind fun ds S2 => .ok (enumD 0 ds) S2
  | _ => .bad := by exact rfl
@[simp] theorem seqI_ap (f : MD) (ρ : Env) (S : Sto) : seqI f ρ S = (f ρ S).bind fun d S1 => lift (flatD d) S1 := by exact rfl
end PD


set_option Elab.async false
set_option linter.all false
set_option maxRecDepth 100000
set_option maxHeartbeats 4000000
/-! PM3: what the package's small functions give. -/
namespace PM
open PySem PD

def S_is_whole (F : MF) : Prop := ∀ (i : Int) S, F [.int i] S = .ok (.bl true) S
theorem is_whole_ok : S_is_whole (runS 1 r_is_whole) := by
  intro i S
  simp [r_is_whole, isiB]
def hiD : Option Int → D
  | none => .non
  | some h => .int h
def inR (lo : Int) (hi : Option Int) (i : Int) : Bool := decide (lo ≤ i) && match hi with
  | none => true
  | some h => decide (i ≤ h)
def S_is_number (F : MF) : Prop := ∀ (i lo : Int) (hi : Option Int) S, F [.int i, .int lo, hiD hi] S = .ok (.bl (inR lo hi i)) S
theorem is_number_ok {F : MF} (h : S_is_whole F) : S_is_number (runS 3 (r_is_number F)) := by
  intro i lo hi S
  have h := h i
  by_cases q : i < lo
  · have q2 : ¬ lo ≤ i := by omega
    simp [r_is_number, h, q, q2, inR]
  · have q2 : lo ≤ i := by omega
    cases hi with
    | none => simp [r_is_number, h, q, q2, inR, hiD]
    | some z => simp [r_is_number, h, q, q2, inR, hiD]
def S_is_height (F : MF) : Prop := ∀ (i : Int) S, F [.int i] S = .ok (.bl (inR 0 (some 999) i)) S
theorem is_height_ok {F : MF} (h : S_is_number F) : S_is_height (runS 1 (r_is_height F)) := by
  intro i S
  have := h i 0 (some 999) S
  simp only [hiD] at this
  simp [r_is_height, this]
/-- a right one: not there before -/
def S_is_right (F : MF) : Prop := ∀ (i : Int) (r : List Int) S, r.length < 12 → 0 ≤ i → i ≤ 999 → i ∉ r → F [.int i, rowD r] S = .ok (.bl true) S
theorem mem_ints {i : Int} {r : List Int} : memD (.int i) (rowD r) = decide (i ∈ r) := by
  unfold memD rowD elems
  rw [List.any_map]
  induction r with
  | nil => simp
  | cons a r ih =>
    simp only [List.any_cons, Function.comp, toP_int, eqv_int] at ih ⊢
    rw [ih]
    by_cases q : a = i
    · simp [q]
    · have q' : ¬ i = a := fun z => q z.symm
      simp [q, q']
theorem inOk_row (i : Int) (r : List Int) : inOk (.int i) (rowD r) = true := by
  unfold inOk
  rw [show D.dat dep (rowD r) = true from dat_row r 19, show isSeq (rowD r) = true from rfl]
  simp
theorem inS_row (i : Int) (r : List Int) (S : Sto) : inS (.int i) (rowD r) S = .ok (.bl (decide (i ∈ r))) S := by
  show guardR (inOk (.int i) (rowD r)) (R.ok (D.bl (memD (.int i) (rowD r))) S) = _
  rw [mem_ints, inOk_row]
  rfl
theorem ninS_row (i : Int) (r : List Int) (S : Sto) : ninS (.int i) (rowD r) S = .ok (.bl (!decide (i ∈ r))) S := by
  show guardR (inOk (.int i) (rowD r)) (R.ok (D.bl (!memD (.int i) (rowD r))) S) = _
  rw [mem_ints, inOk_row]
  rfl
theorem is_right_ok {F : MF} (h : S_is_height F) : S_is_right (runS 2 (r_is_right F)) := by
  intro i r S h1 h2 h3 h4
  have := h i S
  have e : inR 0 (some 999) i = true := by simp [inR, h2, h3]
  rw [e] at this
  have h1' : (r.length : Int) < 12 := by omega
  simp [r_is_right, this, len_row, ninS_row, h4, h1', nD]
/-- a row that is right -/
def S_wrong_at (F : MF) (j : Nat) : Prop := ∀ (r : List Int) S, RowOk r → F [rowD r, .clo j] S = .ok (.lst []) S
theorem take_nd {r : List Int} (h : r.Nodup) {i : Nat} (hi : i < r.length) : ht r i ∉ r.take i := by
  intro z
  obtain ⟨j, hj, e⟩ := List.mem_iff_getElem.mp z
  rw [List.length_take] at hj
  rw [List.getElem_take] at e
  have e2 : r[j]'(by omega) = r[i]'hi := by rw [e]; simp [ht, List.getD, hi]
  have := (List.getElem_inj h).mp e2
  omega
theorem _root_.PD.RowOk.ht {r : List Int} (ok : RowOk r) {i : Nat} (hi : i < r.length) : 0 ≤ PD.ht r i ∧ PD.ht r i ≤ 999 := by
  rw [ht_eq hi]
  exact ok.lo _ (List.getElem_mem hi)
theorem wrong_at_ok {gF gC : Nat → Option (Nat × MF)} {j : Nat} {G : MF} (hg : gC j = some (2, G)) (h : S_is_right G) : S_wrong_at (runS 4 (r_wrong_at gC gF)) j := by
  intro r S ok
  have st : ∀ (i : Nat) (d : D) (ρ : PD.Env) (S' : Sto), (enumD 0 (r.map D.int))[i]? = some d → (S' = S ∧ ∃ o1 o2, ρ = [some (rowD r), some (.clo j), o1, o2]) → ∃ ρ' S'', ((tupE 2 (consE (setE 2) (consE (setE 3) nilE)) d ρ S').bind fun ρ1 S1 => seqS (ifS (notM (callV gF gC 1 (consL (slotM 3) (consL (sliceM (slotM 0) noneO (someO (slotM 2))) nilL)))) (seqS (retS (mL (consL (slotM 2) nilL) lstS)) nextS) nextS) nextS ρ1 S1) = .ok (.nx ρ') S'' ∧ (S'' = S ∧ ∃ o1 o2, ρ' = [some (rowD r), some (.clo j), o1, o2]) := by
    rintro i d ρ S' hd ⟨rfl, o1, o2, rfl⟩
    have hi : i < r.length := by
      have := (List.getElem?_eq_some_iff.mp hd).1
      rw [enumD_len, List.length_map] at this
      exact this
    rw [enumD_get 0 (r.map D.int) i _ (row_at r i hi)] at hd
    cases hd
    have hr := h (PD.ht r i) (r.take i) S' (by rw [List.length_take]; have := ok.le; omega) (ok.ht hi).1 (ok.ht hi).2 (take_nd ok.nd hi)
    have e0 : cutD (r.map D.int) none (some (i : Int)) = (r.map D.int).take i := cut_to _ _
    refine ⟨[some (rowD r), some (.clo j), some (nD i), some (.int (PD.ht r i))], S', ?_, rfl, _, _, rfl⟩
    simp only [rowD, List.map_take] at hr
    simp [callV, hg, someO_ap, rowD, nD, e0, hr]
  obtain ⟨ρ', S', e, rfl, _⟩ := forL_inv (fg := tupE 2 (consE (setE 2) (consE (setE 3) nilE))) (fb := seqS (ifS (PD.notM (callV gF gC 1 (consL (slotM 3) (consL (sliceM (slotM 0) noneO (someO (slotM 2))) nilL)))) (seqS (retS (mL (consL (slotM 2) nilL) lstS)) nextS) nextS) nextS) (fun _ ρ S' => S' = S ∧ ∃ o1 o2, ρ = [some (rowD r), some (.clo j), o1, o2]) (enumD 0 (r.map D.int)) 0 [some (rowD r), some (.clo j), none, none] S ⟨rfl, _, _, rfl⟩ fun i d ρ S' => st i d ρ S'
  simp only [rowD] at e
  simp [r_wrong_at, isiB, rowD, e]
def S_wrong_none (F : MF) (j : Nat) : Prop := ∀ (r : List Int) S, RowOk r → F [rowD r, .clo j] S = .ok (.lst []) S
theorem wrong_none_ok {F : MF} {j : Nat} (h : S_wrong_at F j) : S_wrong_none (runS 2 (r_wrong_or_none F)) j := by
  intro r S ok
  have := h r S ok
  have e : r.isEmpty = false := by
    have := ok.ne
    cases r <;> simp_all
  simp only [rowD] at this
  have hd : D.dat 20 (.tup (r.map D.int)) = true := dat_row r 19
  have q := eqS_nilT (r.map D.int) S hd
  rw [List.isEmpty_map, e] at q
  simp [r_wrong_or_none, isiB, rowD, q, this]
def S_wrong_row (F : MF) : Prop := ∀ (r : List Int) S, RowOk r → F [rowD r] S = .ok (.lst []) S
theorem wrong_row_ok {F : MF} {j : Nat} (h : S_wrong_none F j) : S_wrong_row (runS 2 (r_wrong_row F j)) := by
  intro r S ok
  have := h r S ok
  simp [r_wrong_row, this]
def S_check_row (F : MF) : Prop := ∀ (r : List Int) S, RowOk r → F [rowD r] S = .ok .non S
theorem check_row_ok {F : MF} (h : S_wrong_row F) : S_check_row (runS 2 (r_check_row F)) := by
  intro r S ok
  have := h r S ok
  simp [r_check_row, this, forL]
def S_check_number (F : MF) : Prop := ∀ (i lo : Int) (hi : Option Int) S, inR lo hi i = true → F [.int i, .int lo, hiD hi] S = .ok .non S
theorem check_number_ok {F : MF} (h : S_is_number F) : S_check_number (runS 3 (r_check_number F)) := by
  intro i lo hi S q
  have := h i lo hi S
  rw [q] at this
  simp [r_check_number, this]
def S_check_any (F : MF) : Prop := ∀ (i : Int) S, 0 ≤ i → F [.int i] S = .ok .non S
theorem check_any_ok {F : MF} (h : S_check_number F) : S_check_any (runS 1 (r_check_any_number F)) := by
  intro i S q
  have := h i 0 none S (by simp [inR, q])
  simp only [hiD] at this
  simp [r_check_any_number, this]
def S_check_person_of (F : MF) : Prop := ∀ (n p : Nat) S, p < n → F [nD n, nD p] S = .ok .non S
theorem check_person_of_ok {F : MF} (h : S_check_any F) : S_check_person_of (runS 2 (r_check_person_of F)) := by
  intro n p S q
  have := h (p : Int) S (by omega)
  have q' : ¬ (n : Int) ≤ (p : Int) := by omega
  simp [r_check_person_of, nD, this, q']
def S_check_person (F : MF) : Prop := ∀ (r : List Int) (p : Nat) S, RowOk r → p < r.length → F [rowD r, nD p] S = .ok .non S
theorem check_person_ok {F G : MF} (h : S_check_person_of F) (h2 : S_check_row G) : S_check_person (runS 2 (r_check_person F G)) := by
  intro r p S ok q
  have e1 := h r.length p S q
  have e2 := h2 r S ok
  simp [r_check_person, e1, e2, len_row]
end PM


set_option Elab.async false
set_option linter.all false
set_option maxRecDepth 100000
set_option maxHeartbeats 4000000
/-! PM4: sights. -/
namespace PM
open PySem PD

theorem min_two (i j : Int) (S : Sto) : minS false [.int i, .int j] S = .ok (.int (if j < i then j else i)) S := rfl
theorem max_two (i j : Int) (S : Sto) : minS true [.int i, .int j] S = .ok (.int (if j > i then j else i)) S := rfl
def lowH (r : List Int) (a b : Nat) : Int := if ht r b < ht r a then ht r b else ht r a
def barsL (r : List Int) (a b : Nat) : List Nat := (up (a + 1) b).filter fun p => decide (lowH r a b ≤ ht r p)
def S_bars (F : MF) : Prop := ∀ (r : List Int) (a b : Nat) S, r.length ≤ lim → a < r.length → b < r.length → F [rowD r, nD a, nD b] S = .ok (.lst ((barsL r a b).map nD)) S
theorem bars_ok : S_bars (runS 5 r_bars_between) := by
  intro r a b S hl ha hb
  have h1 : rngOk2 ((a : Int) + 1) (b : Int) = true := rok2s (by omega) (by omega)
  have h2 := idx_row r a S ha
  have h3 := idx_row r b S hb
  have key := compR1 (v := 4) (ft := truM (m2 (m2 (slotM 0) (slotM 4) idxS) (slotM 3) geS)) (fe := slotM 4) (ρ := [some (rowD r), some (nD a), some (nD b), some (.int (lowH r a b)), none]) (S := S) (fun p => decide (lowH r a b ≤ ht r p)) nD (a := a) (b := b) (by simp) (fun i hi hib => by
    have h4 := idx_row r i S (by omega)
    simp only [nD] at h4
    simp [h4])
  have hm : minS false [.int (ht r a), .int (ht r b)] S = .ok (.int (lowH r a b)) S := rfl
  simp only [nD] at h2 h3 key
  simp [r_bars_between, h1, h2, h3, hm, key, barsL]
/-- a sees b -/
def see (r : List Int) (a b : Nat) : Bool := (barsL r a b).isEmpty
theorem dat_nats (k : Nat) (l : List Nat) : D.dat (k + 1) (.lst (l.map nD)) = true := by simp
theorem dat_natsT (k : Nat) (l : List Nat) : D.dat (k + 1) (.tup (l.map nD)) = true := by simp
def S_see (F : MF) : Prop := ∀ (r : List Int) (a b : Nat) S, r.length ≤ lim → a < r.length → b < r.length → F [rowD r, nD a, nD b] S = .ok (.bl (see r a b)) S
theorem see_ok {F : MF} (h : S_bars F) : S_see (runS 3 (r_do_see_in F)) := by
  intro r a b S hl ha hb
  have h1 := h r a b S hl ha hb
  have h2 := eqS_nilL ((barsL r a b).map nD) S (dat_nats 19 _)
  simp only [nD] at h1 h2
  simp [r_do_see_in, h1, h2, see]
/-- all pairs, in their order -/
def pairD (p : Nat × Nat) : D := .tup [nD p.1, nD p.2]
def pairsL (n : Nat) : List (Nat × Nat) := (up 0 n).flatMap fun a => (up (a + 1) n).map fun b => (a, b)
def S_pairs (F : MF) : Prop := ∀ (n : Nat) S, n ≤ 1000 → F [nD n] S = .ok (.lst ((pairsL n).map pairD)) S
theorem up_len (a b : Nat) : (up a b).length = b - a := by simp [up]
theorem pairs_len (n : Nat) : (pairsL n).length ≤ n * n := by
  unfold pairsL
  have : ∀ l : List Nat, (l.flatMap fun a => (up (a + 1) n).map fun b => (a, b)).length ≤ l.length * n := by
    intro l
    induction l with
    | nil => simp
    | cons a l ih =>
      simp only [List.flatMap_cons, List.length_append, List.length_map, up_len, List.length_cons, Nat.succ_mul]
      omega
  have := this (up 0 n)
  rw [up_len] at this
  simpa using this
theorem pairs_ok : S_pairs (runS 3 r_pairs_of_all) := by
  intro n S hn
  have h0 : rngOk1 (n : Int) = true := rok1 (by unfold lim; omega)
  have inner : ∀ a, a < n → compL (setE 2) yesM (mL (consL (slotM 1) (consL (slotM 2) nilL)) tupS) (rngD ((a : Int) + 1) n) [some (nD n), some (nD a), none] S = .ok ((up (a + 1) n).map fun b => pairD (a, b)) S := by
    intro a ha
    have := compR1 (v := 2) (ft := yesM) (fe := mL (consL (slotM 1) (consL (slotM 2) nilL)) tupS) (ρ := [some (nD n), some (nD a), none]) (S := S) (fun _ => true) (fun b => pairD (a, b)) (a := a) (b := n) (by simp) (fun i hi hib => by
      have : 2 ≤ lim := by decide
      simp [pairD, this])
    rw [this, List.filter_eq_self.mpr (by simp)]
  have outer : ∀ l : List Nat, (∀ a ∈ l, a < n) → compL2 [2] (setE 1) yesM (rng2 (consL (m2 (slotM 1) (conM (.int 1)) addS) (consL (slotM 0) nilL))) (setE 2) yesM (mL (consL (slotM 1) (consL (slotM 2) nilL)) tupS) (l.map fun (i : Nat) => D.int (i : Int)) [some (nD n), none, none] S = .ok ((l.flatMap fun a => (up (a + 1) n).map fun b => (a, b)).map pairD) S := by
    intro l
    induction l with
    | nil => intro _; rfl
    | cons a l ih =>
      intro hl
      have ih := ih fun z hz => hl z (List.mem_cons_of_mem _ hz)
      have ha := hl a List.mem_cons_self
      have h1 : rngOk2 ((a : Int) + 1) (n : Int) = true := rok2s (by unfold lim; omega) (by unfold lim; omega)
      have hi := inner a ha
      simp only [nD] at hi ih
      simp only [List.map_cons]
      unfold compL2
      simp [h1, hi, ih, Function.comp_def]
  have hl : (pairsL n).length ≤ lim := by
    have := pairs_len n
    have h2 : n * n ≤ 1000 * 1000 := Nat.mul_le_mul hn hn
    unfold lim
    omega
  have e := outer (up 0 n) fun a ha => (mem_up.mp ha).2
  rw [← rngD_up] at e
  have : runS 3 r_pairs_of_all [nD n] S = (compM2 [1, 2] [2] (rng1 (consL (slotM 0) nilL)) (setE 1) yesM (rng2 (consL (m2 (slotM 1) (conM (.int 1)) addS) (consL (slotM 0) nilL))) (setE 2) yesM (mL (consL (slotM 1) (consL (slotM 2) nilL)) tupS) [some (nD n), none, none] S).bind fun d S1 => .ok d S1 := by
    simp only [r_pairs_of_all, runS_ap, seqS_ap, retS_ap]
    simp
    cases compM2 [1, 2] [2] (rng1 (consL (slotM 0) nilL)) (setE 1) yesM (rng2 (consL (m2 (slotM 1) (conM (.int 1)) addS) (consL (slotM 0) nilL))) (setE 2) yesM (mL (consL (slotM 1) (consL (slotM 2) nilL)) tupS) [some (nD n), none, none] S <;> rfl
  rw [this]
  unfold compM2
  simp only [nD] at e
  have e' : compL2 [2] (setE 1) yesM (rng2 (consL (m2 (slotM 1) (conM (.int 1)) addS) (consL (slotM 0) nilL))) (setE 2) yesM (mL (consL (slotM 1) (consL (slotM 2) nilL)) tupS) (rngD 0 n) [some (nD n), none, none] S = .ok ((pairsL n).map pairD) S := e
  simp only [nD] at e'
  simp [h0, e', hl]
def sightsL (r : List Int) : List (Nat × Nat) := (pairsL r.length).filter fun p => see r p.1 p.2
theorem mem_pairs {n : Nat} {p : Nat × Nat} : p ∈ pairsL n ↔ p.1 < p.2 ∧ p.2 < n := by
  obtain ⟨a, b⟩ := p
  unfold pairsL
  simp only [List.mem_flatMap, List.mem_map, mem_up, Prod.mk.injEq]
  constructor
  · rintro ⟨x, hx, y, hy, rfl, rfl⟩
    omega
  · intro h
    exact ⟨a, by omega, b, by omega, rfl, rfl⟩
def S_sights (F : MF) : Prop := ∀ (r : List Int) S, r.length ≤ 1000 → F [rowD r] S = .ok (.tup ((sightsL r).map pairD)) S
theorem sights_ok {F G : MF} (hs : S_see F) (hp : S_pairs G) : S_sights (runS 2 (r_sights_of F G)) := by
  intro r S hl
  have h1 := hp r.length S hl
  have key := comp_map (v := 1) (ft := truM (mL (consL (slotM 0) (consL (m2 (slotM 1) (conM (.int 0)) idxS) (consL (m2 (slotM 1) (conM (.int 1)) idxS) nilL))) (callS F 3))) (fe := slotM 1) (ρ := [some (rowD r), none]) (S := S) pairD (fun p => see r p.1 p.2) pairD (pairsL r.length) (by simp) (fun p hpm => by
    obtain ⟨q1, q2⟩ := mem_pairs.mp hpm
    have h2 := hs r p.1 p.2 S (by unfold lim; omega) (by omega) (by omega)
    have i0 : idxS (pairD p) (.int 0) S = .ok (nD p.1) S := by rfl
    have i1 : idxS (pairD p) (.int 1) S = .ok (nD p.2) S := by rfl
    simp [i0, i1, h2])
  simp only [nD] at h1
  simp [r_sights_of, len_row, h1, key, sightsL, tupleS]
/-! ### looks -/
def seenLeftL (r : List Int) (p : Nat) : List Nat := (up 0 p).filter fun k => see r k p
def S_seen_left (F : MF) : Prop := ∀ (r : List Int) (p : Nat) S, RowOk r → p < r.length → F [rowD r, nD p] S = .ok (.tup ((seenLeftL r p).map nD)) S
theorem seen_left_ok {F G : MF} (h1 : S_check_person F) (h2 : S_see G) : S_seen_left (runS 3 (r_seen_left F G)) := by
  intro r p S ok hp
  have hl := ok.le
  have e1 := h1 r p S ok hp
  have h0 : rngOk1 (p : Int) = true := rok1 (by unfold lim; omega)
  have key := compR0 (v := 2) (ft := truM (mL (consL (slotM 0) (consL (slotM 2) (consL (slotM 1) nilL))) (callS G 3))) (fe := slotM 2) (ρ := [some (rowD r), some (nD p), none]) (S := S) (fun k => see r k p) nD (b := p) (by simp) (fun i hi => by
    have := h2 r i p S (by unfold lim; omega) (by omega) hp
    simp only [nD] at this
    simp [this])
  simp only [nD] at e1 key
  simp [r_seen_left, e1, h0, key, seenLeftL, tupleS]
/-- how many pairs have it -/
theorem ones_snd (l : List (Nat × Nat)) (p : Nat) (S : Sto) (a b : Option D) :
    compL (tupE 2 (consE (setE 2) (consE (setE 3) nilE))) (truM (m2 (slotM 3) (slotM 4) (cmpS bothD eqD))) (conM (.int 1)) (l.map pairD) [a, b, none, none, some (.int (p : Int))] S = .ok ((l.filter fun z => decide (z.2 = p)).map fun _ => D.int 1) S := by
  induction l with
  | nil => rfl
  | cons z l ih =>
    have e := eqS_int (z.2 : Int) (p : Int) S
    simp only [List.map_cons]
    unfold compL
    by_cases q : z.2 = p
    · subst q
      simp [pairD, e, ih]
    · have q' : ¬ (z.2 : Int) = (p : Int) := by omega
      simp [pairD, e, q, q', ih]
theorem ones_fst (l : List (Nat × Nat)) (p : Nat) (S : Sto) (a b : Option D) :
    compL (tupE 2 (consE (setE 2) (consE (setE 3) nilE))) (truM (m2 (slotM 2) (slotM 4) (cmpS bothD eqD))) (conM (.int 1)) (l.map pairD) [a, b, none, none, some (.int (p : Int))] S = .ok ((l.filter fun z => decide (z.1 = p)).map fun _ => D.int 1) S := by
  induction l with
  | nil => rfl
  | cons z l ih =>
    have e := eqS_int (z.1 : Int) (p : Int) S
    simp only [List.map_cons]
    unfold compL
    by_cases q : z.1 = p
    · subst q
      simp [pairD, e, ih]
    · have q' : ¬ (z.1 : Int) = (p : Int) := by omega
      simp [pairD, e, q, q', ih]
def S_looksL (F : MF) : Prop := ∀ (r : List Int) S, r.length ≤ 1000 → F [rowD r] S = .ok (.tup ((up 0 r.length).map fun p => nD ((sightsL r).filter fun z => decide (z.2 = p)).length)) S
def S_looksR (F : MF) : Prop := ∀ (r : List Int) S, r.length ≤ 1000 → F [rowD r] S = .ok (.tup ((up 0 r.length).map fun p => nD ((sightsL r).filter fun z => decide (z.1 = p)).length)) S
theorem len_lst (xs : List D) (S : Sto) : lenS [.lst xs] S = .ok (nD xs.length) S := by simp [lenS, nD]
theorem looksL_ok {F : MF} (h : S_sights F) : S_looksL (runS 5 (r_looks_to_left F)) := by
  intro r S hl
  have e1 := h r S hl
  have h0 : rngOk1 (r.length : Int) = true := rok1 (by unfold lim; omega)
  have key := compR0 (v := 4) (ft := yesM) (fe := mL (consL (compM [2, 3] (seqI (slotM 1)) (tupE 2 (consE (setE 2) (consE (setE 3) nilE))) (truM (m2 (slotM 3) (slotM 4) (cmpS bothD eqD))) (conM (.int 1))) nilL) lenS) (ρ := [some (rowD r), some (.tup ((sightsL r).map pairD)), none, none, none]) (S := S) (fun _ => true) (fun p => nD ((sightsL r).filter fun z => decide (z.2 = p)).length) (b := r.length) (by simp) (fun i hi => by
    have := ones_snd (sightsL r) i S (some (rowD r)) (some (.tup ((sightsL r).map pairD)))
    simp [this, len_lst])
  rw [List.filter_eq_self.mpr (by simp)] at key
  simp [r_looks_to_left, e1, len_row, h0, key, tupleS]
theorem looksR_ok {F : MF} (h : S_sights F) : S_looksR (runS 5 (r_looks_to_right F)) := by
  intro r S hl
  have e1 := h r S hl
  have h0 : rngOk1 (r.length : Int) = true := rok1 (by unfold lim; omega)
  have key := compR0 (v := 4) (ft := yesM) (fe := mL (consL (compM [2, 3] (seqI (slotM 1)) (tupE 2 (consE (setE 2) (consE (setE 3) nilE))) (truM (m2 (slotM 2) (slotM 4) (cmpS bothD eqD))) (conM (.int 1))) nilL) lenS) (ρ := [some (rowD r), some (.tup ((sightsL r).map pairD)), none, none, none]) (S := S) (fun _ => true) (fun p => nD ((sightsL r).filter fun z => decide (z.1 = p)).length) (b := r.length) (by simp) (fun i hi => by
    have := ones_fst (sightsL r) i S (some (rowD r)) (some (.tup ((sightsL r).map pairD)))
    simp [this, len_lst])
  rw [List.filter_eq_self.mpr (by simp)] at key
  simp [r_looks_to_right, e1, len_row, h0, key, tupleS]
/-- with the check ahead -/
def S_looksL' (F : MF) : Prop := ∀ (r : List Int) S, RowOk r → F [rowD r] S = .ok (.tup ((up 0 r.length).map fun p => nD ((sightsL r).filter fun z => decide (z.2 = p)).length)) S
def S_looksR' (F : MF) : Prop := ∀ (r : List Int) S, RowOk r → F [rowD r] S = .ok (.tup ((up 0 r.length).map fun p => nD ((sightsL r).filter fun z => decide (z.1 = p)).length)) S
theorem looksL'_ok {F G : MF} (h : S_check_row F) (h2 : S_looksL G) : S_looksL' (runS 1 (r_looks_left F G)) := by
  intro r S ok
  have e1 := h r S ok
  have e2 := h2 r S (by have := ok.le; omega)
  simp only [nD] at e2
  simp [r_looks_left, e1, e2]
theorem looksR'_ok {F G : MF} (h : S_check_row F) (h2 : S_looksR G) : S_looksR' (runS 1 (r_looks_right F G)) := by
  intro r S ok
  have e1 := h r S ok
  have e2 := h2 r S (by have := ok.le; omega)
  simp only [nD] at e2
  simp [r_looks_right, e1, e2]
end PM


set_option Elab.async false
set_option linter.all false
set_option maxRecDepth 100000
set_option maxHeartbeats 4000000
/-! PM5: the next one up, ways up. -/
namespace PM
open PySem PD

def leftL (r : List Int) (p : Nat) : List Nat := (up 0 p).filter fun k => decide (ht r p < ht r k)
def rightL (r : List Int) (p : Nat) : List Nat := (up (p + 1) r.length).filter fun k => decide (ht r p < ht r k)
def la (r : List Int) (p : Nat) : Option Nat := (leftL r p).getLast?
def rb (r : List Int) (p : Nat) : Option Nat := (rightL r p).head?
def optL : Option Nat → List Nat
  | none => []
  | some a => [a]
def optD : Option Nat → D
  | none => .non
  | some a => nD a
def upO (r : List Int) (p : Nat) : Option Nat := match la r p, rb r p with
  | none, none => none
  | some a, none => some a
  | none, some b => some b
  | some a, some b => if ht r b < ht r a then some b else some a
theorem drop_last (l : List Nat) : l.drop (l.length - 1) = optL l.getLast? := by
  rcases List.eq_nil_or_concat l with rfl | ⟨l', a, rfl⟩
  · rfl
  · simp [optL]
theorem take_one (l : List Nat) : l.take 1 = optL l.head? := by cases l <;> rfl
theorem up_lt {a b i : Nat} (h : i ∈ up a b) : i < b := (mem_up.mp h).2
theorem la_lt {r : List Int} {p a : Nat} (h : la r p = some a) : a < p ∧ ht r p < ht r a := by
  have := List.mem_of_getLast? h
  unfold leftL at this
  rw [List.mem_filter, mem_up] at this
  exact ⟨by omega, of_decide_eq_true this.2⟩
theorem rb_lt {r : List Int} {p a : Nat} (h : rb r p = some a) : p < a ∧ a < r.length ∧ ht r p < ht r a := by
  have := List.mem_of_mem_head? (l := rightL r p) (a := a) (by unfold rb at h; rw [h]; rfl)
  unfold rightL at this
  rw [List.mem_filter, mem_up] at this
  exact ⟨by omega, by omega, of_decide_eq_true this.2⟩
theorem upO_lt {r : List Int} {p q : Nat} (hp : p < r.length) (h : upO r p = some q) : q < r.length ∧ ht r p < ht r q := by
  unfold upO at h
  cases e1 : la r p with
  | none =>
    cases e2 : rb r p with
    | none => simp [e1, e2] at h
    | some b =>
      simp [e1, e2] at h
      subst h
      exact ⟨(rb_lt e2).2.1, (rb_lt e2).2.2⟩
  | some a =>
    have ha := la_lt e1
    cases e2 : rb r p with
    | none =>
      simp [e1, e2] at h
      subst h
      exact ⟨by omega, ha.2⟩
    | some b =>
      simp only [e1, e2] at h
      split at h
      · cases h
        exact ⟨(rb_lt e2).2.1, (rb_lt e2).2.2⟩
      · cases h
        exact ⟨by omega, ha.2⟩
theorem left_comp (r : List Int) (p : Nat) (S : Sto) (o1 o2 : Option D) (hl : r.length ≤ 1000) (hp : p < r.length) : compL (setE 3) (truM (m2 (m2 (slotM 0) (slotM 3) idxS) (m2 (slotM 0) (slotM 1) idxS) gtS)) (slotM 3) (rngD 0 p) [some (rowD r), some (nD p), o1, none, o2] S = .ok (.map nD (leftL r p)) S := by
  have h2 := idx_row r p S hp
  simp only [nD] at h2
  exact compR0 (v := 3) (fun k => decide (ht r p < ht r k)) nD (by simp) fun i hi => by
    have h3 := idx_row r i S (by omega)
    simp only [nD] at h3
    simp [h2, h3]
theorem right_comp (r : List Int) (p : Nat) (S : Sto) (o1 o2 : Option D) (hl : r.length ≤ 1000) (hp : p < r.length) : compL (setE 3) (truM (m2 (m2 (slotM 0) (slotM 3) idxS) (m2 (slotM 0) (slotM 1) idxS) gtS)) (slotM 3) (rngD ((p : Int) + 1) r.length) [some (rowD r), some (nD p), o1, none, o2] S = .ok (.map nD (rightL r p)) S := by
  have h2 := idx_row r p S hp
  simp only [nD] at h2
  exact compR1 (v := 3) (fun k => decide (ht r p < ht r k)) nD (by simp) fun i _ hi => by
    have h3 := idx_row r i S (by omega)
    simp only [nD] at h3
    simp [h2, h3]
def S_beside (F : MF) : Prop := ∀ (r : List Int) (p : Nat) S, r.length ≤ 1000 → p < r.length → F [rowD r, nD p] S = .ok (.tup [.lst ((optL (la r p)).map nD), .lst ((optL (rb r p)).map nD)]) S
theorem beside_ok : S_beside (runS 5 r_taller_beside) := by
  intro r p S hl hp
  have h0 : rngOk1 (p : Int) = true := rok1 (by unfold lim; omega)
  have h1 : rngOk2 ((p : Int) + 1) (r.length : Int) = true := rok2s (by unfold lim; omega) (by unfold lim; omega)
  have k1 := left_comp r p S none none hl hp
  have k2 := right_comp r p S (some (.lst ((leftL r p).map nD))) none hl hp
  have c1 : cutD ((leftL r p).map nD) (some (-1)) none = (optL (la r p)).map nD := by
    rw [cut_last, List.length_map, ← List.map_drop, drop_last]
    rfl
  have c2 : cutD ((rightL r p).map nD) none (some 1) = (optL (rb r p)).map nD := by
    have := cut_to ((rightL r p).map nD) 1
    rw [← List.map_take, take_one] at this
    exact this
  have h2 : 2 ≤ lim := by decide
  simp only [nD] at k1 k2 c1 c2
  simp [r_taller_beside, h0, h1, k1, k2, someO_ap, negS, c1, c2, len_row, h2]
theorem merge_two {α : Type} (le : α → α → Bool) (a b : α) : [a, b].mergeSort le = if le a b then [a, b] else [b, a] := by
  simp [List.mergeSort, List.MergeSort.Internal.splitInTwo, List.merge]
/-! ### sorted by height -/
theorem key_row {r : List Int} {ρ : PD.Env} {k : Nat} (h0 : slotD ρ 0 = some (rowD r)) (hl : r.length ≤ lim) (hk : k < r.length) : (KX.ix (.cap 0) .par).ev ρ (nD k) = some (.int (ht r k)) := by
  have e : (r.map D.int)[k]? = some (.int (ht r k)) := row_at r k hk
  have e2 : L2.atI (r.map D.int) (k : Int) = some (.int (ht r k)) := by rw [atI_nat]; exact e
  unfold rowD at h0
  simp [KX.ev, h0, hl, e2]
theorem keyD_row {r : List Int} {ρ : PD.Env} {k : Nat} (h0 : slotD ρ 0 = some (rowD r)) (hl : r.length ≤ lim) (hk : k < r.length) : keyD ρ (KX.ix (.cap 0) .par) (nD k) = .int (ht r k) := by
  unfold keyD
  rw [key_row h0 hl hk]
  rfl
theorem orderly_ints (l : List Int) : orderly (l.map D.int) = true := by
  unfold orderly
  rw [Bool.and_eq_true, List.all_eq_true, List.all_eq_true]
  refine ⟨fun d hd => ?_, fun d hd => ?_⟩
  · obtain ⟨i, _, rfl⟩ := List.mem_map.mp hd
    rw [toP_int, dat_int]
    rfl
  · obtain ⟨i, _, rfl⟩ := List.mem_map.mp hd
    rw [List.all_eq_true]
    intro e he
    obtain ⟨j, _, rfl⟩ := List.mem_map.mp he
    rw [toP_int, toP_int]
    unfold PySem.W.alike
    rfl
theorem sortable_ints (l : List Int) : sortable (l.map D.int) = true := by
  unfold sortable
  rw [orderly_ints]
  simp
theorem keysOk_row {r : List Int} {ρ : PD.Env} {l : List Nat} (h0 : slotD ρ 0 = some (rowD r)) (hl : r.length ≤ lim) (hk : ∀ k ∈ l, k < r.length) : keysOk ρ (KX.ix (.cap 0) .par) (l.map nD) = true := by
  unfold keysOk
  have e1 : (KX.ix (.cap 0) .par).caps ρ = true := by
    have := dat_row r 19
    simp [KX.caps, h0, dep, this]
  have e2 : (l.map nD).map (keyD ρ (KX.ix (.cap 0) .par)) = (l.map (ht r)).map D.int := by
    rw [List.map_map, List.map_map]
    exact List.map_congr_left fun k hkl => keyD_row h0 hl (hk k hkl)
  rw [e1, e2, sortable_ints]
  simp only [Bool.true_and, Bool.and_true, List.all_eq_true]
  intro d hd
  obtain ⟨k, hkl, rfl⟩ := List.mem_map.mp hd
  rw [key_row h0 hl (hk k hkl), keyD_row h0 hl (hk k hkl)]
  simp [nl, dep]
theorem sort_row {r : List Int} {ρ : PD.Env} {p : Nat} (h0 : slotD ρ 0 = some (rowD r)) (hl : r.length ≤ lim) (hp : p < r.length) :
    (((optL (la r p)).map nD ++ (optL (rb r p)).map nD).mergeSort fun a b => PySem.W.dataLe false (fun d => D.toP dep (keyD ρ (KX.ix (.cap 0) .par) d)) a b).take 1 = (optL (upO r p)).map nD := by
  unfold upO
  cases e1 : la r p with
  | none =>
    cases e2 : rb r p with
    | none => simp [optL]
    | some b => simp [optL]
  | some a =>
    have ha := la_lt e1
    cases e2 : rb r p with
    | none => simp [optL]
    | some b =>
      have hb := rb_lt e2
      have q : (optL (some a)).map nD ++ (optL (some b)).map nD = [nD a, nD b] := rfl
      rw [q, merge_two, PySem.W.dataLe_eq]
      have k1 := keyD_row (k := a) h0 hl (by omega)
      have k2 := keyD_row h0 hl hb.2.1
      simp only [cond, k1, k2, toP_int, dataLt_int]
      by_cases z : ht r b < ht r a
      · simp [z, optL]
      · simp [z, optL]
def S_nextL (F : MF) : Prop := ∀ (r : List Int) (p : Nat) S, r.length ≤ 1000 → p < r.length → F [rowD r, nD p] S = .ok (.lst ((optL (upO r p)).map nD)) S
theorem nextL_ok {F : MF} (h : S_beside F) : S_nextL (runS 4 (r_next_up_of F)) := by
  intro r p S hl hp
  have e1 := h r p S hl hp
  have hm : ∀ k ∈ optL (la r p) ++ optL (rb r p), k < r.length := by
    intro k hk
    rcases List.mem_append.mp hk with hk | hk
    · cases e : la r p with
      | none => rw [e] at hk; cases hk
      | some a =>
        rw [e] at hk
        have := la_lt e
        simp [optL] at hk
        omega
    · cases e : rb r p with
      | none => rw [e] at hk; cases hk
      | some a =>
        rw [e] at hk
        have := rb_lt e
        simp [optL] at hk
        omega
  have h2 : keysOk [some (rowD r), some (nD p), some (.lst ((optL (la r p)).map nD)), some (.lst ((optL (rb r p)).map nD))] (KX.ix (.cap 0) .par) ((optL (la r p)).map nD ++ (optL (rb r p)).map nD) = true := by
    rw [← List.map_append]
    exact keysOk_row rfl (by unfold lim; omega) hm
  have h3 := sort_row (ρ := [some (rowD r), some (nD p), some (.lst ((optL (la r p)).map nD)), some (.lst ((optL (rb r p)).map nD))]) (p := p) rfl (r := r) (by unfold lim; omega) hp
  have hlen : (optL (la r p)).length + (optL (rb r p)).length ≤ lim := by
    have l1 : (optL (la r p)).length ≤ 1 := by cases la r p <;> simp [optL]
    have l2 : (optL (rb r p)).length ≤ 1 := by cases rb r p <;> simp [optL]
    unfold lim
    omega
  have c1 : ∀ xs : List D, cutD xs none (some 1) = xs.take 1 := fun xs => cut_to xs 1
  simp only [nD] at e1 h2 h3
  simp [r_next_up_of, e1, add_lst, hlen, sortK, h2, someO_ap, c1, h3]
/-! ### next_up -/
def S_next_up (F : MF) : Prop := ∀ (r : List Int) (p : Nat) S, RowOk r → p < r.length → F [rowD r, nD p] S = .ok (optD (upO r p)) S
theorem next_up_ok {F G : MF} (h : S_check_person F) (h2 : S_nextL G) : S_next_up (runS 2 (r_next_up F G)) := by
  intro r p S ok hp
  have hl := ok.le
  have e1 := h r p S ok hp
  have e2 := h2 r p S (by omega) hp
  have hlen : 2 ≤ lim := by decide
  have hlen1 : 1 ≤ lim := by decide
  simp only [nD] at e1 e2
  cases e : upO r p with
  | none =>
    rw [e] at e2
    simp [r_next_up, e1, e2, optL, hlen1, optD]
    rfl
  | some q =>
    rw [e] at e2
    simp [r_next_up, e1, e2, optL, hlen, optD]
    rfl
/-! ### ways up -/
def path (r : List Int) : Nat → Nat → List Nat
  | 0, p => [p]
  | k + 1, p => p :: match upO r p with
    | none => []
    | some q => path r k q
def ended (r : List Int) : Nat → Nat → Prop
  | 0, p => upO r p = none
  | k + 1, p => ∀ q, upO r p = some q → ended r k q
theorem asL_snoc (S : Sto) (xs : List D) : MO.asL (S ++ [MO.lst xs])[S.length]? = some xs := by
  rw [List.getElem?_append_right (Nat.le_refl _), Nat.sub_self]
  rfl
theorem set_snoc (S : Sto) (x y : MO) : (S ++ [x]).set S.length y = S ++ [y] := by
  rw [List.set_append_right _ _ (Nat.le_refl _), Nat.sub_self]
  rfl
theorem idx_loc_last (S : Sto) (l : List Nat) (c : Nat) : idxS (.loc S.length) (.int (-1)) (S ++ [.lst ((l ++ [c]).map nD)]) = .ok (nD c) (S ++ [.lst ((l ++ [c]).map nD)]) := by
  have e : seqD (S ++ [.lst ((l ++ [c]).map nD)]) (.loc S.length) = some ((l ++ [c]).map nD) := asL_snoc S _
  unfold idxS
  simp only [e, atI_last]
  simp
@[simp] theorem neg_int (i : Int) (S : Sto) : negS (.int i) S = .ok (.int (-i)) S := by exact rfl
theorem loc_snoc (S : Sto) (xs : List D) : locL (S ++ [MO.lst xs]) (.loc S.length) = some (S.length, xs) := by
  show (MO.asL (S ++ [MO.lst xs])[S.length]?).map (fun xs => (S.length, xs)) = _
  rw [asL_snoc]
  rfl
@[simp] theorem appM_ap (fo fa : MD) (ρ : PD.Env) (S : Sto) : appM fo fa ρ S = (fo ρ S).bind fun o S1 => (lift (locL S1 o) S1).bind fun _ S2 => (fa ρ S2).bind fun d S3 => match locL S3 o with
  | some (n, xs) => guardR (decide (xs.length < lim)) (.ok .non (S3.set n (.lst (xs ++ [d]))))
  | none => .bad := by exact rfl
def S_climbL (F : MF) : Prop := ∀ (r : List Int) (p k : Nat) S, r.length ≤ 12 → p < r.length → ended r k p → k < fuel → F [rowD r, nD p] S = .ok (.tup ((path r k p).map nD)) (S ++ [.lst ((path r k p).map nD)])
theorem path_len (r : List Int) : ∀ (k p : Nat), (path r k p).length ≤ k + 1
  | 0, p => by simp [path]
  | k + 1, p => by
    unfold path
    cases upO r p with
    | none => simp
    | some q =>
      have := path_len r k q
      simp only [List.length_cons]
      omega
theorem climbL_ok {F : MF} (h : S_nextL F) : S_climbL (runS 3 (r_climb_of F)) := by
  intro r p k S hl hp he hk
  have loop : ∀ (k f : Nat) (acc : List Nat) (cur : Nat), cur < r.length → ended r k cur → k < f → acc.length + k + 2 ≤ 100000 →
      whileL (m2 (mL (consL (slotM 0) (consL (m2 (slotM 2) (m1 (conM (.int 1)) negS) idxS) nilL)) (callS F 2)) (mL nilL lstS) (cmpS bothD fun x y => !eqD x y)) (seqS (exprS (appM (slotM 2) (m2 (mL (consL (slotM 0) (consL (m2 (slotM 2) (m1 (conM (.int 1)) negS) idxS) nilL)) (callS F 2)) (conM (.int 0)) idxS))) nextS) f [some (rowD r), some (nD p), some (.loc S.length)] (S ++ [.lst ((acc ++ [cur]).map nD)]) =
        .ok (.nx [some (rowD r), some (nD p), some (.loc S.length)]) (S ++ [.lst ((acc ++ path r k cur).map nD)]) := by
    intro k
    induction k with
    | zero =>
      intro f acc cur hc he hf hz
      obtain ⟨f, rfl⟩ : ∃ g, f = g + 1 := ⟨f - 1, by omega⟩
      have he : upO r cur = none := he
      have e1 := h r cur (S ++ [.lst ((acc ++ [cur]).map nD)]) (by omega) hc
      rw [he] at e1
      have e2 := idx_loc_last S acc cur
      have e3 := neS_nilL [] (S ++ [.lst ((acc ++ [cur]).map nD)]) (by simp)
      unfold whileL
      simp only [nD] at e1 e2 e3
      simp [optL] at e1 e2 e3 ⊢
      simp [e1, e2, e3, path]
    | succ k ih =>
      intro f acc cur hc he hf hz
      obtain ⟨f, rfl⟩ : ∃ g, f = g + 1 := ⟨f - 1, by omega⟩
      have e1 := h r cur (S ++ [.lst ((acc ++ [cur]).map nD)]) (by omega) hc
      have e2 := idx_loc_last S acc cur
      cases hq : upO r cur with
      | none =>
        rw [hq] at e1
        have e3 := neS_nilL [] (S ++ [.lst ((acc ++ [cur]).map nD)]) (by simp)
        unfold whileL
        simp only [nD] at e1 e2 e3
        simp [optL] at e1 e2 e3 ⊢
        simp [e1, e2, e3, path, hq]
      | some q =>
        rw [hq] at e1
        have e3 := neS_nilL [nD q] (S ++ [.lst ((acc ++ [cur]).map nD)]) (by simp)
        have hlt := (upO_lt hc hq).1
        have ih := ih f (acc ++ [cur]) q hlt (he q hq) (by omega) (by rw [List.length_append]; simp; omega)
        have ea := loc_snoc S ((acc ++ [cur]).map nD)
        have es : ∀ x, (S ++ [MO.lst ((acc ++ [cur]).map nD)]).set S.length x = S ++ [x] := fun x => set_snoc S _ x
        have hz2 : acc.length + 1 < lim := by unfold lim; omega
        have i0 : idxS (.lst [.int (q : Int)]) (.int 0) (S ++ [.lst ((acc ++ [cur]).map nD)]) = .ok (.int (q : Int)) (S ++ [.lst ((acc ++ [cur]).map nD)]) := by rfl
        unfold whileL
        simp only [nD] at e1 e2 e3 ih ea i0 es
        simp [optL] at e1 e2 e3 ih ea i0 es ⊢
        simp [e1, e2, e3, i0, ea, es, hz2, path, hq, ih]
  have e := loop k fuel [] p hp he hk (by unfold fuel at hk; simp; omega)
  have q1 : 1 ≤ lim := by decide
  simp only [nD, List.nil_append, List.map_cons, List.map_nil] at e
  simp [r_climb_of, newS, q1, e, tupleS, seqD, lstD, MO.asL]
/-! the way ends -/
def tallerN (r : List Int) (p : Nat) : Nat := ((up 0 r.length).filter fun k => decide (ht r p < ht r k)).length
theorem filter_lt {α : Type} {l : List α} {p q : α → Bool} (h : ∀ x ∈ l, p x = true → q x = true) (y : α) (hy : y ∈ l) (h1 : p y = false) (h2 : q y = true) : (l.filter p).length < (l.filter q).length := by
  induction l with
  | nil => cases hy
  | cons a l ih =>
    have le : ∀ l : List α, (∀ x ∈ l, p x = true → q x = true) → (l.filter p).length ≤ (l.filter q).length := by
      intro l
      induction l with
      | nil => intro _; exact Nat.le_refl _
      | cons b l ih =>
        intro h
        have ih := ih fun x hx => h x (List.mem_cons_of_mem _ hx)
        rw [List.filter_cons, List.filter_cons]
        cases e : p b with
        | true =>
          rw [h b List.mem_cons_self e]
          simp
          exact ih
        | false =>
          cases q b <;> simp <;> omega
    rcases List.mem_cons.mp hy with e | hy
    · subst e
      have := le l fun x hx => h x (List.mem_cons_of_mem _ hx)
      rw [List.filter_cons, List.filter_cons, h1, h2]
      simp
      omega
    · have ih := ih (fun x hx => h x (List.mem_cons_of_mem _ hx)) hy
      rw [List.filter_cons, List.filter_cons]
      cases e : p a with
      | true =>
        rw [h a List.mem_cons_self e]
        simp
        exact ih
      | false =>
        cases q a <;> simp <;> omega
theorem ended_of (r : List Int) : ∀ (k p : Nat), p < r.length → tallerN r p ≤ k → ended r k p
  | 0, p, hp, h => by
    show upO r p = none
    cases e : upO r p with
    | none => rfl
    | some q =>
      obtain ⟨h1, h2⟩ := upO_lt hp e
      have : q ∈ (up 0 r.length).filter fun k => decide (ht r p < ht r k) := List.mem_filter.mpr ⟨mem_up.mpr ⟨by omega, h1⟩, decide_eq_true h2⟩
      have := List.length_pos_of_mem this
      unfold tallerN at h
      omega
  | k + 1, p, hp, h => fun q hq => by
    obtain ⟨h1, h2⟩ := upO_lt hp hq
    refine ended_of r k q h1 ?_
    have := filter_lt (l := up 0 r.length) (p := fun k => decide (ht r q < ht r k)) (q := fun k => decide (ht r p < ht r k)) (fun x _ hx => by
      have := of_decide_eq_true hx
      exact decide_eq_true (by omega)) q (mem_up.mpr ⟨by omega, h1⟩) (by simp) (decide_eq_true h2)
    unfold tallerN at *
    omega
theorem taller_le (r : List Int) (p : Nat) (hp : p < r.length) : tallerN r p ≤ r.length - 1 := by
  have := filter_lt (l := up 0 r.length) (p := fun k => decide (ht r p < ht r k)) (q := fun _ => true) (fun _ _ _ => rfl) p (mem_up.mpr ⟨by omega, hp⟩) (by simp) rfl
  have e : (up 0 r.length).filter (fun _ => true) = up 0 r.length := List.filter_eq_self.mpr (by simp)
  rw [e, up_len] at this
  unfold tallerN
  omega
/-- the whole way up -/
def way (r : List Int) (p : Nat) : List Nat := path r r.length p
theorem ended_all (r : List Int) (p : Nat) (hp : p < r.length) : ended r r.length p := ended_of r _ p hp (by have := taller_le r p hp; omega)
def S_climb (F : MF) : Prop := ∀ (r : List Int) (p : Nat) S, RowOk r → p < r.length → F [rowD r, nD p] S = .ok (.tup ((way r p).map nD)) (S ++ [.lst ((way r p).map nD)])
theorem climb_ok {F G : MF} (h : S_check_person F) (h2 : S_climbL G) : S_climb (runS 2 (r_climb F G)) := by
  intro r p S ok hp
  have hl := ok.le
  have e1 := h r p S ok hp
  have e2 := h2 r p r.length S (by omega) hp (ended_all r p hp) (by unfold fuel; omega)
  simp only [nD] at e1 e2
  simp [r_climb, e1, e2, way]
end PM


set_option Elab.async false
set_option linter.all false
set_option maxRecDepth 100000
set_option maxHeartbeats 4000000
/-! PM6: the law's own functions. -/
namespace PM
open PySem PD

/-- a comprehension whose items may lay new places -/
theorem compR0_new {v : Nat} {fe : MD} {ρ : PD.Env} (g : Nat → D) {b : Nat} (hv : v < ρ.length) (h : ∀ i, i < b → ∀ S, ∃ E, fe (ρ.set v (some (.int (i : Int)))) S = .ok (g i) (S ++ E)) (S : Sto) :
    ∃ E, compL (setE v) yesM fe (rngD 0 b) ρ S = .ok ((up 0 b).map g) (S ++ E) := by
  have key : ∀ (l : List Nat) (S : Sto), (∀ i ∈ l, i < b) → ∃ E, compL (setE v) yesM fe (l.map fun (i : Nat) => D.int (i : Int)) ρ S = .ok (l.map g) (S ++ E) := by
    intro l
    induction l with
    | nil => intro S _; exact ⟨[], by simp [compL]⟩
    | cons i l ih =>
      intro S hl
      obtain ⟨E1, e1⟩ := h i (hl i List.mem_cons_self) S
      obtain ⟨E2, e2⟩ := ih (S ++ E1) fun j hj => hl j (List.mem_cons_of_mem _ hj)
      refine ⟨E1 ++ E2, ?_⟩
      simp only [List.map_cons]
      unfold compL
      simp [hv, e1, e2]
  have e := key (up 0 b) S fun i hi => up_lt hi
  rw [← rngD_up] at e
  exact e
def S_depths (F : MF) : Prop := ∀ (r : List Int) S, RowOk r → ∃ E, F [rowD r] S = .ok (.tup ((up 0 r.length).map fun p => .int ((way r p).length - 1))) (S ++ E)
theorem depths_ok {F G : MF} (h : S_check_row F) (h2 : S_climbL G) : S_depths (runS 2 (r_depths F G)) := by
  intro r S ok
  have hl := ok.le
  have e1 := h r S ok
  have h0 : rngOk1 (r.length : Int) = true := rok1 (by unfold lim; omega)
  obtain ⟨E, key⟩ := compR0_new (v := 1) (fe := m2 (mL (consL (mL (consL (slotM 0) (consL (slotM 1) nilL)) (callS G 2)) nilL) lenS) (conM (.int 1)) (intS fun i j => some (i - j))) (ρ := [some (rowD r), none]) (fun p => .int ((way r p).length - 1)) (b := r.length) (by simp) (fun p hp S => by
    have e2 := h2 r p r.length S (by omega) hp (ended_all r p hp) (by unfold fuel; omega)
    refine ⟨[.lst ((way r p).map nD)], ?_⟩
    simp only [nD] at e2
    simp [e2, lenS, way]) S
  exact ⟨E, by simp [r_depths, e1, len_row, h0, key, tupleS]⟩

/-! ### bars, whom one sees -/
def lawBars (r : List Int) (a b : Nat) : List Nat := (up (min a b + 1) (max a b)).filter fun k => decide (lowH r a b < ht r k)
theorem if_min (a b : Nat) : (if (b : Int) < (a : Int) then (b : Int) else (a : Int)) = ((min a b : Nat) : Int) := by
  split <;> omega
theorem if_max (a b : Nat) : (if (b : Int) > (a : Int) then (b : Int) else (a : Int)) = ((max a b : Nat) : Int) := by
  split <;> omega
theorem min_nat (a b : Nat) (S : Sto) : minS false [.int (a : Int), .int (b : Int)] S = .ok (nD (min a b)) S := by
  rw [min_two, if_min]
theorem max_nat (a b : Nat) (S : Sto) : minS true [.int (a : Int), .int (b : Int)] S = .ok (nD (max a b)) S := by
  rw [max_two, if_max]
def S_lawBars (F : MF) : Prop := ∀ (r : List Int) (a b : Nat) S, r.length ≤ 1000 → a < r.length → b < r.length → F [rowD r, nD a, nD b] S = .ok (.tup ((lawBars r a b).map nD)) S
theorem lawBars_ok : S_lawBars (runS 5 r__law_bars) := by
  intro r a b S hl ha hb
  have h1 : rngOk2 (((min a b : Nat) : Int) + 1) ((max a b : Nat) : Int) = true := rok2s (by unfold lim; omega) (by unfold lim; omega)
  have h2 := idx_row r a S ha
  have h3 := idx_row r b S hb
  have key := compR1 (v := 4) (ft := truM (m2 (m2 (slotM 0) (slotM 4) idxS) (slotM 3) gtS)) (fe := slotM 4) (ρ := [some (rowD r), some (nD a), some (nD b), some (.int (lowH r a b)), none]) (S := S) (fun p => decide (lowH r a b < ht r p)) nD (a := min a b) (b := max a b) (by simp) (fun i hi hib => by
    have h4 := idx_row r i S (by omega)
    simp only [nD] at h4
    simp [h4])
  have hm : minS false [.int (ht r a), .int (ht r b)] S = .ok (.int (lowH r a b)) S := rfl
  have m1 := min_nat a b S
  have m2' := max_nat a b S
  generalize hmn : min a b = mn at *
  generalize hmx : max a b = mx at *
  simp only [nD] at h2 h3 key m1 m2'
  simp [r__law_bars, h1, h2, h3, hm, key, m1, m2', lawBars, hmn, hmx, tupleS]
def lawSeen (r : List Int) (p : Nat) : List Nat := (up 0 r.length).filter fun k => !decide (k = p) && (lawBars r p k).isEmpty
def S_lawSeen (F : MF) : Prop := ∀ (r : List Int) (p : Nat) S, r.length ≤ 1000 → p < r.length → F [rowD r, nD p] S = .ok (.tup ((lawSeen r p).map nD)) S
theorem lawSeen_ok {F : MF} (h : S_lawBars F) : S_lawSeen (runS 3 (r__law_seen F)) := by
  intro r p S hl hp
  have h0 : rngOk1 (r.length : Int) = true := rok1 (by unfold lim; omega)
  have key := compR0 (v := 2) (ft := truM (boolM true (m2 (slotM 2) (slotM 1) (cmpS bothD fun x y => !eqD x y)) (m2 (mL (consL (slotM 0) (consL (slotM 1) (consL (slotM 2) nilL))) (callS F 3)) (mL nilL tupS) (cmpS bothD eqD)))) (fe := slotM 2) (ρ := [some (rowD r), some (nD p), none]) (S := S) (fun k => !decide (k = p) && (lawBars r p k).isEmpty) nD (b := r.length) (by simp) (fun i hi => by
    have e1 := neS_int (i : Int) (p : Int) S
    have e2 := h r p i S hl hp hi
    have e3 := eqS_nilT ((lawBars r p i).map nD) S (dat_natsT 19 _)
    simp only [nD] at e2 e3
    by_cases q : i = p
    · subst q
      simp at e1
      simp [e1]
    · have q' : ¬ (i : Int) = (p : Int) := by omega
      simp [q'] at e1
      simp [e1, e2, e3, q])
  simp only [nD] at key
  simp [r__law_seen, len_row, h0, key, lawSeen, tupleS]

/-! ### covers, up, climb -/
def S_lawCovers (F : MF) : Prop := ∀ (r : List Int) (p : Nat) S, r.length ≤ 1000 → p < r.length → F [rowD r, nD p] S = .ok (.tup [optD (la r p), optD (rb r p)]) S
theorem lawCovers_ok : S_lawCovers (runS 5 r__law_covers) := by
  intro r p S hl hp
  have h0 : rngOk1 (p : Int) = true := rok1 (by unfold lim; omega)
  have h1 : rngOk2 ((p : Int) + 1) (r.length : Int) = true := rok2s (by unfold lim; omega) (by unfold lim; omega)
  have k1 := left_comp r p S none none hl hp
  have k2 := right_comp r p S (some (.lst ((leftL r p).map nD))) none hl hp
  have e1 := neS_nilL ((leftL r p).map nD) S (dat_nats 19 _)
  have e2 := neS_nilL ((rightL r p).map nD) S (dat_nats 19 _)
  have i1 : ∀ a, la r p = some a → idxS (.lst ((leftL r p).map nD)) (.int (-1)) S = .ok (nD a) S := by
    intro a ha
    show lift (L2.atI _ _) S = _
    rw [atI_last, List.getLast?_map]
    unfold la at ha
    rw [ha]
    rfl
  have i2 : ∀ a, rb r p = some a → idxS (.lst ((rightL r p).map nD)) (.int 0) S = .ok (nD a) S := by
    intro a ha
    have : idxS (.lst ((rightL r p).map nD)) (.int 0) S = lift ((rightL r p).map nD)[0]? S := idx_natL _ 0 S
    rw [this, List.getElem?_map, ← List.head?_eq_getElem?]
    unfold rb at ha
    rw [ha]
    rfl
  have n1 : (leftL r p).isEmpty = (la r p).isNone := by
    unfold la
    cases leftL r p with
    | nil => rfl
    | cons a l => simp
  have n2 : (rightL r p).isEmpty = (rb r p).isNone := by
    unfold rb
    cases rightL r p <;> rfl
  rw [List.isEmpty_map, n1] at e1
  rw [List.isEmpty_map, n2] at e2
  have h2 : 2 ≤ lim := by decide
  simp only [nD] at k1 k2 e1 e2 i1 i2
  cases ea : la r p with
  | none =>
    cases eb : rb r p with
    | none =>
      rw [ea] at e1
      rw [eb] at e2
      simp at e1 e2
      simp [r__law_covers, h0, h1, k1, k2, e1, e2, len_row, h2, optD]
    | some b =>
      have i2 := i2 b eb
      rw [ea] at e1
      rw [eb] at e2
      simp at e1 e2
      simp [r__law_covers, h0, h1, k1, k2, e1, e2, len_row, h2, optD, i2]
  | some a =>
    have i1 := i1 a ea
    cases eb : rb r p with
    | none =>
      rw [ea] at e1
      rw [eb] at e2
      simp at e1 e2
      simp [r__law_covers, h0, h1, k1, k2, e1, e2, len_row, h2, optD, i1]
    | some b =>
      have i2 := i2 b eb
      rw [ea] at e1
      rw [eb] at e2
      simp at e1 e2
      simp [r__law_covers, h0, h1, k1, k2, e1, e2, len_row, h2, optD, i1, i2]
end PM


set_option Elab.async false
set_option linter.all false
set_option maxRecDepth 100000
set_option maxHeartbeats 4000000
/-! PM7: the law's own ways up; sameness. -/
namespace PM
open PySem PD

def hk (r : List Int) (k : Nat) : D := .tup [.int (ht r k), nD k]
theorem orderly_hk (r : List Int) (l : List Nat) : orderly (l.map (hk r)) = true := by
  unfold orderly
  rw [Bool.and_eq_true, List.all_eq_true, List.all_eq_true]
  refine ⟨fun d hd => ?_, fun d hd => ?_⟩
  · obtain ⟨i, _, rfl⟩ := List.mem_map.mp hd
    simp [hk, dep, isNonP]
  · obtain ⟨i, _, rfl⟩ := List.mem_map.mp hd
    rw [List.all_eq_true]
    intro e he
    obtain ⟨j, _, rfl⟩ := List.mem_map.mp he
    simp [hk, dep, PySem.W.alike, PySem.W.alikeAll]
theorem ltD_hk (r : List Int) (a b : Nat) : ltD (hk r a) (hk r b) = decide (ht r a < ht r b ∨ (ht r a = ht r b ∧ (a : Int) < (b : Int))) := by
  unfold ltD hk dep
  simp [PySem.W.dataLt_ii]
theorem min_hk1 (r : List Int) (a : Nat) (S : Sto) : minS false [.lst [hk r a]] S = .ok (hk r a) S := by
  have := orderly_hk r [a]
  simp only [List.map_cons, List.map_nil] at this
  show guardR (orderly [hk r a]) _ = _
  rw [this]
  rfl
theorem min_hk2 (r : List Int) (a b : Nat) (S : Sto) (hab : a < b) : minS false [.lst [hk r a, hk r b]] S = .ok (hk r (if ht r b < ht r a then b else a)) S := by
  have := orderly_hk r [a, b]
  simp only [List.map_cons, List.map_nil] at this
  show guardR (orderly [hk r a, hk r b]) (.ok (leastD (hk r a) [hk r b]) S) = _
  rw [this]
  show R.ok (if ltD (hk r b) (hk r a) then hk r b else hk r a) S = _
  rw [ltD_hk]
  by_cases q : ht r b < ht r a
  · simp [q]
  · have : ¬ (ht r b < ht r a ∨ (ht r b = ht r a ∧ (b : Int) < (a : Int))) := by omega
    simp [q, this]
    intro h1 h2
    omega
def S_lawUp (F : MF) : Prop := ∀ (r : List Int) (p : Nat) S, r.length ≤ 1000 → p < r.length → F [rowD r, nD p] S = .ok (optD (upO r p)) S
theorem lawUp_ok {F : MF} (h : S_lawCovers F) : S_lawUp (runS 4 (r__law_up F)) := by
  intro r p S hl hp
  have e := h r p S hl hp
  have i1 : ∀ k, idxS (hk r k) (.int 1) S = .ok (nD k) S := fun k => by rfl
  have h2 : 2 ≤ lim := by decide
  have s1 : ∀ (k : Nat) (S : Sto), cmpS bothD (fun x y => !eqD x y) (.lst [.int (k : Int)]) (.lst []) S = .ok (.bl true) S := fun k S => neS_nilL [nD k] S (by simp)
  have s2 : ∀ (k j : Nat) (S : Sto), cmpS bothD (fun x y => !eqD x y) (.lst [.int (k : Int), .int (j : Int)]) (.lst []) S = .ok (.bl true) S := fun k j S => neS_nilL [nD k, nD j] S (by simp)
  have s0 : ∀ (S : Sto), cmpS bothD (fun x y => !eqD x y) (.lst []) (.lst []) S = .ok (.bl false) S := fun S => neS_nilL [] S (by simp)
  simp only [nD] at e i1
  unfold upO
  cases ea : la r p with
  | none =>
    cases eb : rb r p with
    | none =>
      rw [ea, eb] at e
      simp [optD] at e
      simp [r__law_up, e, compL, s0, optD]
    | some b =>
      have hb := idx_row r b S (rb_lt eb).2.1
      have m := min_hk1 r b S
      rw [ea, eb] at e
      simp only [hk, nD] at m i1 hb
      simp [optD] at e
      simp [r__law_up, e, compL, s1, optD, hb, h2, m, i1]
  | some a =>
    have hla := la_lt ea
    have ha := idx_row r a S (by omega)
    cases eb : rb r p with
    | none =>
      have m := min_hk1 r a S
      rw [ea, eb] at e
      simp only [hk, nD] at m i1 ha
      simp [optD] at e
      simp [r__law_up, e, compL, s1, optD, ha, h2, m, i1]
    | some b =>
      have hrb := rb_lt eb
      have hb := idx_row r b S hrb.2.1
      have m := min_hk2 r a b S (by omega)
      rw [ea, eb] at e
      simp only [hk, nD] at m i1 ha hb
      simp [optD] at e
      by_cases q : ht r b < ht r a
      · simp only [q, if_true] at m
        simp [r__law_up, e, compL, s2, optD, ha, hb, h2, m, i1, q]
      · simp only [q, if_false] at m
        simp [r__law_up, e, compL, s2, optD, ha, hb, h2, m, i1, q]
/-! ### the way -/
theorem path_more (r : List Int) : ∀ (k p : Nat), ended r k p → path r (k + 1) p = path r k p
  | 0, p, h => by
    have h : upO r p = none := h
    simp [path, h]
  | k + 1, p, h => by
    unfold path
    cases e : upO r p with
    | none => rfl
    | some q =>
      simp only []
      rw [path_more r k q (h q e)]
def S_lawClimb (F : MF) : Prop := ∀ (r : List Int) (p : Nat) S, r.length ≤ 1000 → p < r.length → F [rowD r, nD p] S = .ok (.tup ((way r p).map nD)) S
theorem lawClimb_ok {F : MF} (h : S_lawUp F) : S_lawClimb (runS 5 (r__law_climb F)) := by
  intro r p S hl hp
  have h0 : rngOk1 (r.length : Int) = true := rok1 (by unfold lim; omega)
  have loop : ∀ (m : Nat) (l : List D) (acc : List Nat) (cur : Nat) (o1 o2 : Option D), l.length = m → (∀ d ∈ l, ∃ i : Nat, d = nD i) → cur < r.length → acc.length + m + 2 ≤ 100000 →
      ∃ o3 o4, forL (setE 3) (seqS (asgS (mL (consL (slotM 0) (consL (m2 (slotM 2) (m1 (conM (.int 1)) negS) idxS) nilL)) (callS F 2)) (setE 4)) (seqS (asgS (m2 (slotM 2) (iteM (m2 (slotM 4) (conM .non) (isNoneS true)) (mL (consL (slotM 4) nilL) tupS) (mL nilL tupS)) addS) (setE 2)) nextS)) l [some (rowD r), some (nD p), some (.tup (acc.map nD ++ [nD cur])), o1, o2] S =
        .ok (.nx [some (rowD r), some (nD p), some (.tup ((acc ++ path r m cur).map nD)), o3, o4]) S := by
    intro m
    induction m with
    | zero =>
      intro l acc cur o1 o2 hlen _ hc hz
      have : l = [] := List.eq_nil_of_length_eq_zero hlen
      subst this
      exact ⟨o1, o2, by simp [forL, path]⟩
    | succ m ih =>
      intro l acc cur o1 o2 hlen hd hc hz
      cases l with
      | nil => cases hlen
      | cons d l =>
        obtain ⟨i, rfl⟩ := hd d List.mem_cons_self
        have e1 := h r cur S hl hc
        have e2 : idxS (.tup (acc.map nD ++ [nD cur])) (.int (-1)) S = .ok (nD cur) S := by
          show lift (L2.atI _ _) S = _
          rw [atI_last]
          simp
        have l1 : 1 ≤ lim := by decide
        cases hq : upO r cur with
        | none =>
          rw [hq] at e1
          have hle : ended r 0 cur := hq
          obtain ⟨o3, o4, ih⟩ := ih l acc cur (some (nD i)) (some .non) (by simpa using hlen) (fun z hz => hd z (List.mem_cons_of_mem _ hz)) hc (by omega)
          have hp1 : path r (m + 1) cur = [cur] := by simp [path, hq]
          have hp0 : path r m cur = [cur] := by cases m <;> simp [path, hq]
          rw [hp0] at ih
          rw [hp1]
          refine ⟨o3, o4, ?_⟩
          have hz2 : acc.length + 1 ≤ lim := by unfold lim; omega
          unfold forL
          simp only [nD, optD] at e1 e2 ih
          simp [optD] at e1 e2 ih
          simp [e1, e2, add_tup, hz2, ih]
        | some q =>
          rw [hq] at e1
          obtain ⟨o3, o4, ih⟩ := ih l (acc ++ [cur]) q (some (nD i)) (some (nD q)) (by simpa using hlen) (fun z hz => hd z (List.mem_cons_of_mem _ hz)) (upO_lt hc hq).1 (by rw [List.length_append]; simp; omega)
          have hp1 : path r (m + 1) cur = cur :: path r m q := by simp [path, hq]
          rw [hp1]
          refine ⟨o3, o4, ?_⟩
          have hz2 : acc.length + 1 + 1 ≤ lim := by unfold lim; omega
          unfold forL
          simp only [nD, optD] at e1 e2 ih
          simp [optD] at e1 e2 ih
          simp [e1, e2, add_tup, hz2, l1, ih]
  obtain ⟨o3, o4, e⟩ := loop r.length (rngD 0 r.length) [] p none none (by rw [rngD_len]; omega) (fun d hd => by
    have this : rngD 0 r.length = (up 0 r.length).map fun (i : Nat) => D.int (i : Int) := rngD_up 0 r.length
    rw [this] at hd
    obtain ⟨i, _, rfl⟩ := List.mem_map.mp hd
    exact ⟨i, rfl⟩) hp (by simp; omega)
  have l1 : 1 ≤ lim := by decide
  simp only [nD, List.nil_append, List.map_nil] at e
  simp [r__law_climb, l1, len_row, h0, e, way]
/-! ### sameness of what is the same -/
def sameOk : Nat → D → Bool
  | _, .non => true
  | _, .int _ => true
  | _, .bl _ => true
  | k + 1, .tup xs => xs.all (sameOk k) && decide (xs.length ≤ 1000)
  | _, _ => false
theorem same_dat : ∀ (k : Nat) (d : D), sameOk k d = true → D.dat k d = true
  | k, .non, _ => by simp
  | k, .int _, _ => by simp
  | k, .bl _, _ => by simp
  | k + 1, .tup xs, h => by
    obtain ⟨h1, _⟩ := and2 (show (xs.all (sameOk k) && decide (xs.length ≤ 1000)) = true from h)
    rw [List.all_eq_true] at h1
    simp only [dat_tup', List.all_eq_true]
    exact fun d hd => same_dat k d (h1 d hd)
  | 0, .tup xs, h => by cases h
  | k, .str _, h => by cases k <;> cases h
  | k, .lst _, h => by cases k <;> cases h
  | k, .fn _, h => by cases k <;> cases h
  | k, .clo _, h => by cases k <;> cases h
  | k, .loc _, h => by cases k <;> cases h
  | k, .scr _, h => by cases k <;> cases h
def S_same (m : Nat) (F : MF) : Prop := ∀ (d : D) S, sameOk m d = true → F [d, d] S = .ok (.bl true) S
theorem eqS_same {d : D} {m : Nat} (h : sameOk m d = true) (hm : m ≤ 20) (S : Sto) (hd : der S d = d) : cmpS bothD eqD d d S = .ok (.bl true) S := by
  have q := dat_le (same_dat m d h) hm
  unfold cmpS bothD eqD
  rw [hd]
  simp only [dep, q, eqv_refl 20 d q]
  rfl
theorem neS_blx (b : Bool) (S : Sto) : cmpS bothD (fun x y => !eqD x y) (.bl b) (.bl b) S = .ok (.bl false) S := by
  unfold cmpS bothD eqD
  cases b <;> simp [PyData.eqv]
theorem eqS_blx (b : Bool) (S : Sto) : cmpS bothD eqD (.bl b) (.bl b) S = .ok (.bl true) S := by
  unfold cmpS bothD eqD
  cases b <;> simp [PyData.eqv]
theorem eqS_bl (b c : Bool) (S : Sto) : cmpS bothD eqD (.bl b) (.bl c) S = .ok (.bl (b == c)) S := by
  unfold cmpS bothD eqD
  cases b <;> cases c <;> simp [PyData.eqv]
theorem same_leaf {F : MF} {d : D} {S : Sto} (h : sameOk 0 d = true) : runS 3 (r__law_same F) [d, d] S = .ok (.bl true) S := by
  cases d with
  | non =>
    have e := eqS_same (d := .non) (m := 0) rfl (by omega) S rfl
    simp [r__law_same, isiB, neS_blx, eqS_blx, e]
  | int i =>
    have e := eqS_same (d := .int i) (m := 0) rfl (by omega) S rfl
    simp [r__law_same, isiB, neS_blx, eqS_blx, e]
  | bl b =>
    have e := eqS_same (d := .bl b) (m := 0) rfl (by omega) S rfl
    simp [r__law_same, isiB, neS_blx, eqS_blx, e]
  | _ => cases h
theorem leaf_same {k : Nat} {d : D} (h : sameOk k d = true) : sameOk 0 d = true ∨ ∃ xs j, d = .tup xs ∧ k = j + 1 ∧ xs.all (sameOk j) = true ∧ xs.length ≤ 1000 := by
  cases d with
  | non => exact .inl rfl
  | int i => exact .inl rfl
  | bl b => exact .inl rfl
  | tup xs =>
    cases k with
    | zero => cases h
    | succ j =>
      obtain ⟨h1, h2⟩ := and2 (show (xs.all (sameOk j) && decide (xs.length ≤ 1000)) = true from h)
      exact .inr ⟨xs, j, rfl, rfl, h1, of_decide_eq_true h2⟩
  | _ => cases k <;> cases h
theorem same_ok0 {F : MF} : S_same 0 (runS 3 (r__law_same F)) := fun d S h => same_leaf h
theorem bls_true (n : Nat) : blsD (List.replicate n (.bl true)) = some (List.replicate n true) := by
  have := blsD_map (List.replicate n true)
  rw [List.map_replicate] at this
  exact this
theorem same_ok {F : MF} {m : Nat} (h : S_same m F) (hm : m < 20) : S_same (m + 1) (runS 3 (r__law_same F)) := by
  intro d S hd
  rcases leaf_same hd with h0 | ⟨xs, j, rfl, hj, h1, h2⟩
  · exact same_leaf h0
  · have hj : m = j := by omega
    subst hj
    have h0 : rngOk1 (xs.length : Int) = true := rok1 (by unfold lim; omega)
    rw [List.all_eq_true] at h1
    have key := compR0 (v := 2) (ft := yesM) (fe := mL (consL (m2 (slotM 0) (slotM 2) idxS) (consL (m2 (slotM 1) (slotM 2) idxS) nilL)) (callS F 2)) (ρ := [some (.tup xs), some (.tup xs), none]) (S := S) (fun _ => true) (fun _ => .bl true) (b := xs.length) (by simp) (fun i hi => by
      have hq : xs[i]? = some xs[i] := List.getElem?_eq_getElem hi
      have e1 : idxS (.tup xs) (.int (i : Int)) S = .ok xs[i] S := by
        have := idx_nat xs i S
        rw [hq] at this
        exact this
      have e2 := h xs[i] S (h1 _ (List.getElem_mem hi))
      simp [e1, e2, -idx_nat])
    rw [List.filter_eq_self.mpr (by simp)] at key
    have er : (up 0 xs.length).map (fun _ => D.bl true) = List.replicate xs.length (.bl true) := by
      rw [List.map_const', up_len, Nat.sub_zero]
    rw [er] at key
    have ei := eqS_int (xs.length : Int) (xs.length : Int) S
    simp only [decide_true] at ei
    have el : lenS [.tup xs] S = .ok (.int (xs.length : Int)) S := by simp [lenS]
    have ea : allS false [.lst (List.replicate xs.length (.bl true))] S = .ok (.bl true) S := by
      unfold allS
      simp [bls_true]
    simp [r__law_same, isiB, el, ei, h0, key, ea]
theorem S_same.le {F : MF} {m n : Nat} (h : S_same n F) (hmn : m ≤ n) : S_same m F := by
  have mono : ∀ (k : Nat) (d : D), sameOk k d = true → sameOk (k + 1) d = true := by
    intro k
    induction k with
    | zero => intro d hd; cases d <;> first | rfl | cases hd
    | succ k ih =>
      intro d hd
      cases d with
      | tup xs =>
        obtain ⟨h1, h2⟩ := and2 (show (xs.all (sameOk k) && decide (xs.length ≤ 1000)) = true from hd)
        rw [List.all_eq_true] at h1
        show (xs.all (sameOk (k + 1)) && decide (xs.length ≤ 1000)) = true
        rw [Bool.and_eq_true, List.all_eq_true]
        exact ⟨fun x hx => ih x (h1 x hx), h2⟩
      | _ => first | rfl | cases hd
  intro d S hd
  refine h d S ?_
  clear h
  induction hmn with
  | refl => exact hd
  | step _ ih => exact mono _ _ ih
end PM


set_option Elab.async false
set_option linter.all false
set_option maxRecDepth 100000
set_option maxHeartbeats 4000000
/-! PM8: wells, draws, drawn rows. -/
namespace PM
open PySem PD

/-- the well at n -/
def Well (S : Sto) (n : Nat) (a b c : Int) : Prop := S[n]? = some (.lst [.int a, .int b, .int c])
theorem Well.lt {S : Sto} {n : Nat} {a b c : Int} (h : Well S n a b c) : n < S.length := (List.getElem?_eq_some_iff.mp h).1
theorem Well.set {S : Sto} {n : Nat} {a b c : Int} (h : n < S.length) : Well (S.set n (.lst [.int a, .int b, .int c])) n a b c := List.getElem?_set_self h
theorem well_seq {S : Sto} {n : Nat} {a b c : Int} (h : Well S n a b c) : seqD S (.loc n) = some [.int a, .int b, .int c] := by
  show MO.asL S[n]? = _
  rw [h]
  rfl
theorem well_0 {S : Sto} {n : Nat} {a b c : Int} (h : Well S n a b c) : idxS (.loc n) (.int 0) S = .ok (.int a) S := by
  unfold idxS
  simp only [well_seq h]
  rfl
theorem well_1 {S : Sto} {n : Nat} {a b c : Int} (h : Well S n a b c) : idxS (.loc n) (.int 1) S = .ok (.int b) S := by
  unfold idxS
  simp only [well_seq h]
  rfl
theorem well_2 {S : Sto} {n : Nat} {a b c : Int} (h : Well S n a b c) : idxS (.loc n) (.int 2) S = .ok (.int c) S := by
  unfold idxS
  simp only [well_seq h]
  rfl
theorem well_loc {S : Sto} {n : Nat} {a b c : Int} (h : Well S n a b c) : locL S (.loc n) = some (n, [.int a, .int b, .int c]) := by
  show (MO.asL S[n]?).map _ = _
  rw [h]
  rfl
theorem put_0 {S : Sto} {n : Nat} {a b c : Int} (h : Well S n a b c) (d : D) : putIx S (.loc n) (.int 0) d = some (S.set n (.lst [d, .int b, .int c])) := by
  unfold putIx
  simp only [well_loc h]
  rfl
theorem put_1 {S : Sto} {n : Nat} {a b c : Int} (h : Well S n a b c) (d : D) : putIx S (.loc n) (.int 1) d = some (S.set n (.lst [.int a, d, .int c])) := by
  unfold putIx
  simp only [well_loc h]
  rfl
theorem put_2 {S : Sto} {n : Nat} {a b c : Int} (h : Well S n a b c) (d : D) : putIx S (.loc n) (.int 2) d = some (S.set n (.lst [.int a, .int b, d])) := by
  unfold putIx
  simp only [well_loc h]
  rfl
@[simp] theorem setIx_ap (fo fi : MD) (d : D) (ρ : PD.Env) (S : Sto) : setIx fo fi d ρ S = (fo ρ S).bind fun o S1 => (fi ρ S1).bind fun i S2 => match putIx S2 o i d with
  | some S3 => .ok ρ S3
  | none => .bad := by exact rfl
theorem mul_r {i j : Int} (h : Nat.ble j.natAbs 18446744073709551615 = true) : gMul i j = some (i * j) := by
  unfold gMul
  rw [h, Bool.or_true]
  rfl
theorem mul_l {i j : Int} (h : Nat.ble i.natAbs 18446744073709551615 = true) : gMul i j = some (i * j) := by
  unfold gMul
  rw [h, Bool.true_or]
  rfl
theorem mod_r {i j : Int} (h : 0 < j) : gMod i j = some (i % j) := if_pos h
theorem div_r {i j : Int} (h : 0 < j) (h2 : Nat.ble j.natAbs 1073741823 = true) : gDiv i j = some (i / j) := if_pos ⟨h, h2⟩
@[simp] theorem int1_int (i : Int) (S : Sto) : intS1 [.int i] S = .ok (.int i) S := by exact rfl
theorem divmod_ap {a l : Int} (h : 0 < l) (h2 : Nat.ble l.natAbs 1073741823 = true) (S : Sto) : divmodS [.int a, .int l] S = .ok (.tup [.int (a / l), .int (a % l)]) S := by
  show guardR (decide (0 < l ∧ Nat.ble l.natAbs 1073741823 = true)) _ = _
  rw [decide_eq_true ⟨h, h2⟩]
  rfl
def S_draw (F : MF) : Prop := ∀ (S : Sto) (n : Nat) (a b c l : Int), Well S n a b c → 0 ≤ a → 1 ≤ l → l ≤ 1000000 → ∃ d a' b' c', 0 ≤ d ∧ d < l ∧ 0 ≤ a' ∧ F [.loc n, .int l] S = .ok (.int d) (S.set n (.lst [.int a', .int b', .int c']))
theorem draw_ok : S_draw (runS 4 r__law_draw) := by
  intro S n a b c l h ha hl hl2
  have hb1 : Nat.ble l.natAbs 1073741823 = true := Nat.ble_eq_true_of_le (by omega)
  by_cases q : 0 < a
  · refine ⟨a % l, a / l, b, c, Int.emod_nonneg _ (by omega), Int.emod_lt_of_pos _ (by omega), Int.ediv_nonneg ha (by omega), ?_⟩
    simp [r__law_draw, well_0 h, q, divmod_ap (show 0 < l by omega) hb1, put_0 h]
  · have ha0 : a = 0 := by omega
    subst ha0
    have hn := h.lt
    have w1 : Well (S.set n (.lst [.int 0, .int b, .int (c + 1)])) n 0 b (c + 1) := Well.set hn
    have m1 : gMul b 40037 = some (b * 40037) := mul_r (by decide)
    have m2' : gMul 13001 (c + 1) = some (13001 * (c + 1)) := mul_l (by decide)
    have m3 : ∀ x : Int, gMod x 2147483563 = some (x % 2147483563) := fun x => mod_r (by decide)
    generalize hs : (b * 40037 + 13001 * (c + 1) + 7) % 2147483563 = s at *
    have hs0 : 0 ≤ s := by rw [← hs]; exact Int.emod_nonneg _ (by decide)
    have hs1 : s < 2147483563 := by rw [← hs]; exact Int.emod_lt_of_pos _ (by decide)
    have m4 : gMod s 5009 = some (s % 5009) := mod_r (by decide)
    have m5 : gMul s (s % 5009 + 20023) = some (s * (s % 5009 + 20023)) := mul_l (Nat.ble_eq_true_of_le (by omega))
    generalize ht : (s * (s % 5009 + 20023) + (c + 1)) % 2147483563 = t at *
    have w2 : Well (S.set n (.lst [.int 0, .int t, .int (c + 1)])) n 0 t (c + 1) := Well.set hn
    have m6 : gDiv t 1013 = some (t / 1013) := div_r (by decide) (by decide)
    have m7 : gMod (t / 1013) l = some (t / 1013 % l) := mod_r (by omega)
    refine ⟨t / 1013 % l, 0, t, c + 1, Int.emod_nonneg _ (by omega), Int.emod_lt_of_pos _ (by omega), Int.le_refl _, ?_⟩
    simp [r__law_draw, well_0 h, well_2 h, put_2 h, well_1 w1, well_2 w1, put_1 w1, m1, m2', m3, hs, m4, m5, ht, well_1 w2, m6, m7]
theorem idx_int {xs : List D} {d : Int} (S : Sto) (h0 : 0 ≤ d) (h1 : d < xs.length) : ∃ (i : Nat) (h : i < xs.length), idxS (.tup xs) (.int d) S = .ok xs[i] S := by
  refine ⟨d.toNat, by omega, ?_⟩
  have := idx_nat xs d.toNat S
  simp only [nD] at this
  rw [show ((d.toNat : Nat) : Int) = d by omega, List.getElem?_eq_getElem (by omega)] at this
  exact this
def S_of (F : MF) : Prop := ∀ (S : Sto) (n : Nat) (a b c : Int) (xs : List D), Well S n a b c → 0 ≤ a → 1 ≤ xs.length → xs.length ≤ 1000000 → ∃ (i : Nat) (h : i < xs.length) (a' b' c' : Int), 0 ≤ a' ∧ F [.loc n, .tup xs] S = .ok xs[i] (S.set n (.lst [.int a', .int b', .int c']))
theorem of_ok {F : MF} (h : S_draw F) : S_of (runS 2 (r__law_of F)) := by
  intro S n a b c xs hw ha h1 h2
  obtain ⟨d, a', b', c', hd0, hd1, ha', e⟩ := h S n a b c xs.length hw ha (by omega) (by omega)
  obtain ⟨i, hi, e2⟩ := idx_int (xs := xs) (d := d) (S.set n (.lst [.int a', .int b', .int c'])) hd0 hd1
  refine ⟨i, hi, a', b', c', ha', ?_⟩
  have el : lenS [.tup xs] S = .ok (.int (xs.length : Int)) S := by simp [lenS]
  simp [r__law_of, el, e, e2]
/-! ### heights that differ -/
def stepH (r : List Int) (top x : Int) : Int := if x ∈ r then (x + 1) % top else x
def itH (r : List Int) (top : Int) : Nat → Int → Int
  | 0, x => x
  | k + 1, x => stepH r top (itH r top k x)
theorem sub_len {α : Type} [DecidableEq α] : ∀ {l r : List α}, l.Nodup → (∀ x ∈ l, x ∈ r) → l.length ≤ r.length
  | [], _, _, _ => Nat.zero_le _
  | a :: l, r, nd, h => by
    have ha := h a List.mem_cons_self
    have nd' := List.nodup_cons.mp nd
    have := sub_len (l := l) (r := r.erase a) nd'.2 fun x hx => by
      have hne : x ≠ a := fun z => nd'.1 (z ▸ hx)
      exact (List.mem_erase_of_ne hne).mpr (h x (List.mem_cons_of_mem _ hx))
    rw [List.length_erase_of_mem ha] at this
    have := List.length_pos_of_mem ha
    simp only [List.length_cons]
    omega
theorem it_bound {r : List Int} {top : Int} (ht : 0 < top) {x : Int} (h0 : 0 ≤ x) (h1 : x < top) : ∀ k, 0 ≤ itH r top k x ∧ itH r top k x < top
  | 0 => ⟨h0, h1⟩
  | k + 1 => by
    have ih := it_bound (r := r) ht h0 h1 k
    unfold itH stepH
    split
    · exact ⟨Int.emod_nonneg _ (by omega), Int.emod_lt_of_pos _ ht⟩
    · exact ih
theorem it_in {r : List Int} {top x : Int} : ∀ (k j : Nat), itH r top (k + j) x ∈ r → itH r top k x ∈ r
  | k, 0, h => h
  | k, j + 1, h => by
    refine it_in k j ?_
    have h : stepH r top (itH r top (k + j) x) ∈ r := h
    unfold stepH at h
    split at h
    · assumption
    · assumption
theorem it_sum {r : List Int} {top x : Int} (ht : 0 < top) (h0 : 0 ≤ x) (h1 : x < top) : ∀ k : Nat, (∀ j, j < k → itH r top j x ∈ r) → itH r top k x = (x + k) % top
  | 0, _ => by
    show x = (x + 0) % top
    rw [Int.add_zero, Int.emod_eq_of_lt h0 h1]
  | k + 1, h => by
    have ih := it_sum (r := r) ht h0 h1 k fun j hj => h j (by omega)
    show stepH r top (itH r top k x) = _
    unfold stepH
    rw [if_pos (h k (by omega)), ih, Int.emod_add_emod]
    congr 1
    omega
theorem it_free {r : List Int} {top x : Int} (h13 : 13 ≤ top) (h0 : 0 ≤ x) (h1 : x < top) (hr : r.length ≤ 11) : itH r top 14 x ∉ r := by
  intro hin
  have hall : ∀ j, j ≤ 14 → itH r top j x ∈ r := fun j hj => it_in j (14 - j) (by rw [show j + (14 - j) = 14 by omega]; exact hin)
  have hs : ∀ j : Nat, j ≤ 11 → (x + (j : Int)) % top ∈ r := fun j hj => by
    rw [← it_sum (r := r) (by omega) h0 h1 j fun i hi => hall i (by omega)]
    exact hall j (by omega)
  have nd : ((List.range 12).map fun (j : Nat) => (x + (j : Int)) % top).Nodup := by
    unfold List.Nodup
    rw [List.pairwise_map]
    refine List.Pairwise.imp_of_mem ?_ List.nodup_range
    intro a b ha hb hab he
    have ha := List.mem_range.mp ha
    have hb := List.mem_range.mp hb
    have e := Int.emod_emod_of_dvd (x + a) (Int.dvd_refl top)
    have h3 : ((x + (a : Int)) - (x + (b : Int))) % top = 0 := Int.emod_eq_emod_iff_emod_sub_eq_zero.mp he
    have h4 : ((a : Int) - (b : Int)) % top = 0 := by
      rw [show (x + (a : Int)) - (x + (b : Int)) = (a : Int) - (b : Int) by omega] at h3
      exact h3
    have h5 := Int.dvd_of_emod_eq_zero h4
    obtain ⟨q, hq⟩ := h5
    have : q = 0 := by
      rcases Int.lt_trichotomy q 0 with z | z | z
      · have : top * q ≤ top * (-1) := Int.mul_le_mul_of_nonneg_left (by omega) (by omega)
        omega
      · exact z
      · have : top * 1 ≤ top * q := Int.mul_le_mul_of_nonneg_left (by omega) (by omega)
        omega
    subst this
    omega
  have := sub_len nd (r := r) fun y hy => by
    obtain ⟨j, hj, rfl⟩ := List.mem_map.mp hy
    have := List.mem_range.mp hj
    exact hs j (by omega)
  simp at this
  omega
end PM


set_option Elab.async false
set_option linter.all false
set_option maxRecDepth 100000
set_option maxHeartbeats 4000000
/-! PM9: drawn rows, wells laid. -/
namespace PM
open PySem PD

def S_row (F : MF) : Prop := ∀ (S : Sto) (n : Nat) (a b c least most : Int), Well S n a b c → 0 ≤ a → 1 ≤ least → least ≤ most → most ≤ 12 → ∃ (r : List Int) (a' b' c' : Int), 0 ≤ a' ∧ least ≤ r.length ∧ (r.length : Int) ≤ most ∧ r.Nodup ∧ (∀ h ∈ r, 0 ≤ h ∧ h ≤ 999) ∧ F [.loc n, .int least, .int most] S = .ok (rowD r) (S.set n (.lst [.int a', .int b', .int c']))
theorem row_ok {F G : MF} (hF : S_draw F) (hG : S_of G) : S_row (runS 9 (r__law_row F G)) := by
  intro S n a b c least most hw ha h1 h2 h3
  obtain ⟨d1, a1, b1, c1, d10, d11, ha1, e1⟩ := hF S n a b c (most - least + 1) hw ha (by omega) (by omega)
  have hn := hw.lt
  have w1 : Well (S.set n (.lst [.int a1, .int b1, .int c1])) n a1 b1 c1 := Well.set hn
  obtain ⟨i, hi, a2, b2, c2, ha2, e2⟩ := hG _ n a1 b1 c1 [.int 13, .int 13, .int 40, .int 1000] w1 ha1 (by simp) (by simp)
  obtain ⟨top, htop, ht1, ht2⟩ : ∃ top : Int, ([D.int 13, .int 13, .int 40, .int 1000] : List D)[i] = .int top ∧ 13 ≤ top ∧ top ≤ 1000 := by
    match i, hi with
    | 0, _ => exact ⟨13, rfl, by omega, by omega⟩
    | 1, _ => exact ⟨13, rfl, by omega, by omega⟩
    | 2, _ => exact ⟨40, rfl, by omega, by omega⟩
    | 3, _ => exact ⟨1000, rfl, by omega, by omega⟩
  rw [htop] at e2
  rw [List.set_set] at e2
  obtain ⟨many, hmany⟩ : ∃ many : Nat, least + d1 = (many : Int) := ⟨(least + d1).toNat, by omega⟩
  have hm1 : least ≤ many := by omega
  have hm2 : (many : Int) ≤ most := by omega
  -- one height
  have inner : ∀ (r : List Int) (S' : Sto) (o6 o8 : Option D) (x : Int), ∃ o9, forL (setE 8) (seqS (asgS (iteM (m2 (slotM 7) (slotM 5) ninS) (slotM 7) (mL (consL (m2 (m2 (slotM 7) (conM (.int 1)) addS) (slotM 4) (intS gMod)) nilL) intS1)) (setE 7)) nextS) (rngD 0 14) [some (.loc n), some (.int least), some (.int most), some (nD many), some (.int top), some (rowD r), o6, some (.int x), o8] S' =
      .ok (.nx [some (.loc n), some (.int least), some (.int most), some (nD many), some (.int top), some (rowD r), o6, some (.int (itH r top 14 x)), o9]) S' := by
    intro r S' o6 o8 x
    obtain ⟨ρ', S'', e, rfl, o9, rfl⟩ := forL_inv (fg := setE 8) (fb := seqS (asgS (iteM (m2 (slotM 7) (slotM 5) ninS) (slotM 7) (mL (consL (m2 (m2 (slotM 7) (conM (.int 1)) addS) (slotM 4) (intS gMod)) nilL) intS1)) (setE 7)) nextS)
      (fun i ρ S'' => S'' = S' ∧ ∃ o9, ρ = [some (.loc n), some (.int least), some (.int most), some (nD many), some (.int top), some (rowD r), o6, some (.int (itH r top i x)), o9]) (rngD 0 14) 0 [some (.loc n), some (.int least), some (.int most), some (nD many), some (.int top), some (rowD r), o6, some (.int x), o8] S' ⟨rfl, o8, rfl⟩ (fun i d ρ S'' hd ⟨q1, o9, q2⟩ => by
        subst q1 q2
        refine ⟨_, _, ?_, rfl, some d, rfl⟩
        rw [Nat.zero_add]
        have m := ninS_row (itH r top i x) r S''
        have g : gMod (itH r top i x + 1) top = some ((itH r top i x + 1) % top) := mod_r (by omega)
        have es : itH r top (i + 1) x = if itH r top i x ∈ r then (itH r top i x + 1) % top else itH r top i x := rfl
        by_cases z : itH r top i x ∈ r
        · simp only [z, decide_true, Bool.not_true] at m
          rw [es, if_pos z]
          simp [m, g]
        · simp only [z, decide_false, Bool.not_false] at m
          rw [es, if_neg z]
          simp [m])
    have hl : (rngD 0 14).length = 14 := by rw [rngD_len]; rfl
    rw [hl, Nat.zero_add] at e
    exact ⟨o9, e⟩
  -- all heights
  obtain ⟨ρ', S', e, a3, b3, c3, r, o6, o7, o8, ha3, rfl, hlen, hnd, hb, rfl⟩ := forL_inv (fg := setE 6) (fb := seqS (asgS (mL (consL (slotM 0) (consL (slotM 4) nilL)) (callS F 2)) (setE 7)) (seqS (forS (rng1 (consL (conM (.int 14)) nilL)) (setE 8) (seqS (asgS (iteM (m2 (slotM 7) (slotM 5) ninS) (slotM 7) (mL (consL (m2 (m2 (slotM 7) (conM (.int 1)) addS) (slotM 4) (intS gMod)) nilL) intS1)) (setE 7)) nextS)) (seqS (asgS (m2 (slotM 5) (mL (consL (slotM 7) nilL) tupS) addS) (setE 5)) nextS)))
    (fun i ρ S' => ∃ (a3 b3 c3 : Int) (r : List Int) (o6 o7 o8 : Option D), 0 ≤ a3 ∧ S' = S.set n (.lst [.int a3, .int b3, .int c3]) ∧ r.length = i ∧ r.Nodup ∧ (∀ h ∈ r, 0 ≤ h ∧ h < top) ∧ ρ = [some (.loc n), some (.int least), some (.int most), some (nD many), some (.int top), some (rowD r), o6, o7, o8])
    (rngD 0 many) 0 [some (.loc n), some (.int least), some (.int most), some (nD many), some (.int top), some (rowD []), none, none, none] (S.set n (.lst [.int a2, .int b2, .int c2]))
    ⟨a2, b2, c2, [], none, none, none, ha2, rfl, rfl, List.nodup_nil, by simp, rfl⟩ (fun i d ρ S' hd ⟨a3, b3, c3, r, o6, o7, o8, ha3, q1, hlen, hnd, hb, q2⟩ => by
      subst q1 q2
      have hi : i < many := by
        have := (List.getElem?_eq_some_iff.mp hd).1
        rw [rngD_len] at this
        omega
      rw [Nat.zero_add] at hlen
      have w3 : Well (S.set n (.lst [.int a3, .int b3, .int c3])) n a3 b3 c3 := Well.set hn
      obtain ⟨x, a4, b4, c4, hx0, hx1, ha4, e4⟩ := hF _ n a3 b3 c3 top w3 ha3 (by omega) (by omega)
      rw [List.set_set] at e4
      obtain ⟨o9, e5⟩ := inner r (S.set n (.lst [.int a4, .int b4, .int c4])) (some d) o8 x
      have fr := it_free (r := r) (top := top) (x := x) ht1 hx0 hx1 (by omega)
      have bd := it_bound (r := r) (top := top) (by omega) hx0 hx1 14
      refine ⟨[some (.loc n), some (.int least), some (.int most), some (nD many), some (.int top), some (rowD (r ++ [itH r top 14 x])), some d, some (.int (itH r top 14 x)), o9], S.set n (.lst [.int a4, .int b4, .int c4]), ?_, a4, b4, c4, r ++ [itH r top 14 x], some d, some (.int (itH r top 14 x)), o9, ha4, rfl, ?_, ?_, ?_, rfl⟩
      · have l1 : 1 ≤ lim := by decide
        have l2 : r.length + 1 ≤ lim := by unfold lim; omega
        have g14 : rngOk1 14 = true := rok1 (n := 14) (by decide)
        simp only [rowD, nD] at e5
        simp [e4, g14, e5, rowD, add_tup, l1, l2]
      · rw [List.length_append, hlen]
        simp
      · rw [List.nodup_append]
        refine ⟨hnd, by simp, fun y hy z hz => ?_⟩
        have : z = itH r top 14 x := by simpa using hz
        rw [this]
        exact fun q => fr (q ▸ hy)
      · intro y hy
        rcases List.mem_append.mp hy with hy | hy
        · exact hb y hy
        · have : y = itH r top 14 x := by simpa using hy
          rw [this]
          exact bd)
  rw [rngD_len] at hlen
  have hlen : r.length = many := by omega
  refine ⟨r, a3, b3, c3, ha3, by omega, by omega, hnd, fun h hh => ⟨(hb h hh).1, by have := (hb h hh).2; omega⟩, ?_⟩
  have g1 : rngOk1 (many : Int) = true := rok1 (by unfold lim; omega)
  have l4 : 4 ≤ lim := by decide
  simp only [nD, rowD, List.map_nil] at e
  simp [r__law_row, e1, hmany, e2, l4, g1, e, rowD]
/-! ### wells -/
theorem abs_ap (i : Int) (S : Sto) : absS [.int i] S = .ok (.int (if i < 0 then -i else i)) S := rfl
theorem pow_1015 : gPow 10 15 = some 1000000000000000 := by decide
def S_well (F : MF) : Prop := ∀ (ns : List Int) (k : Nat) (S : Sto), ns.length ≤ 1000 → k ≤ 1 → ∃ a b : Int, 0 ≤ a ∧ F [.scr (ns.map D.int), nD k] S = .ok (.loc S.length) (S ++ [.lst [.int a, .int b, .int 0]])
theorem well_ok : S_well (runS 5 r__law_well) := by
  intro ns k S hl hk
  have m0 : gMul 7013 (k : Int) = some (7013 * (k : Int)) := mul_l (by decide)
  have m1 : ∀ s : Int, gMul s 45281 = some (s * 45281) := fun s => mul_r (by decide)
  have m2' : ∀ s : Int, gMod s 2147483549 = some (s % 2147483549) := fun s => mod_r (by decide)
  have m3 : ∀ s : Int, gMod s 2147483563 = some (s % 2147483563) := fun s => mod_r (by decide)
  have m4 : ∀ s : Int, gMul s 41 = some (s * 41) := fun s => mul_r (by decide)
  have m5 : ∀ s : Int, gMul s 15031 = some (s * 15031) := fun s => mul_r (by decide)
  have loop : ∀ (l : List Int) (s : Int) (o3 o4 : Option D), ∃ s' o3', forL (setE 3) (seqS (asgS (m2 (mL (consL (m2 (m2 (m2 (slotM 2) (conM (.int 45281)) (intS gMul)) (m2 (mL (consL (slotM 3) nilL) intS1) (conM (.int 2147483549)) (intS gMod)) addS) (conM (.int 19)) addS) nilL) intS1) (conM (.int 2147483563)) (intS gMod)) (setE 2)) nextS) (l.map D.int) [some (.scr (ns.map D.int)), some (nD k), some (.int s), o3, o4] S =
      .ok (.nx [some (.scr (ns.map D.int)), some (nD k), some (.int s'), o3', o4]) S := by
    intro l
    induction l with
    | nil => intro s o3 o4; exact ⟨s, o3, rfl⟩
    | cons x l ih =>
      intro s o3 o4
      obtain ⟨s', o3', e⟩ := ih ((s * 45281 + x % 2147483549 + 19) % 2147483563) (some (.int x)) o4
      refine ⟨s', o3', ?_⟩
      simp only [List.map_cons]
      unfold forL
      simp only [nD] at e
      simp [m1, m2', m3, e]
  obtain ⟨s1, o3, e1⟩ := loop (ns.take 12) (130577 + 7013 * (k : Int)) none none
  have c1 : cutD (ns.map D.int) none (some 12) = (ns.map D.int).take 12 := cut_to _ 12
  have el : lenS [.scr (ns.map D.int)] S = .ok (.int (ns.length : Int)) S := by simp [lenS]
  obtain ⟨own, eown⟩ : ∃ own : Int, iteM (m2 (slotM 1) (mL (consL (slotM 0) nilL) lenS) ltS) (mL (consL (m2 (slotM 0) (slotM 1) idxS) nilL) intS1) (conM (.int 0)) [some (.scr (ns.map D.int)), some (nD k), some (.int s1), o3, none] S = .ok (.int own) S := by
    by_cases q : k < ns.length
    · refine ⟨ns[k], ?_⟩
      have ei : idxS (.scr (ns.map D.int)) (.int (k : Int)) S = .ok (.int ns[k]) S := by
        show lift (L2.atI (ns.map D.int) (k : Int)) S = _
        rw [atI_nat, List.getElem?_map, List.getElem?_eq_getElem q]
        rfl
      have q' : (k : Int) < (ns.length : Int) := by omega
      simp [el, q, ei]
    · refine ⟨0, ?_⟩
      have q' : ¬ (k : Int) < (ns.length : Int) := by omega
      simp [el, q]
  have hlim : 3 ≤ lim := by decide
  have key : ∃ a : Int, 0 ≤ a ∧ iteM (boolM false (m2 (slotM 4) (conM (.int 0)) ltS) (m2 (slotM 4) (m2 (conM (.int 10)) (conM (.int 15)) (intS gPow)) geS)) (mL (consL (slotM 4) nilL) absS) (conM (.int 0)) [some (.scr (ns.map D.int)), some (nD k), some (.int ((s1 * 41 + own % 2147483549 * 15031 + 5) % 2147483563)), o3, some (.int own)] S = .ok (.int a) S := by
    by_cases q1 : own < 0
    · refine ⟨-own, by omega, ?_⟩
      simp [q1, abs_ap]
    · by_cases q2 : 1000000000000000 ≤ own
      · refine ⟨own, by omega, ?_⟩
        simp [q1, q2, pow_1015, abs_ap]
      · refine ⟨0, Int.le_refl _, ?_⟩
        simp [q1, q2, pow_1015]
  obtain ⟨a, ha, ea⟩ := key
  refine ⟨a, (s1 * 41 + own % 2147483549 * 15031 + 5) % 2147483563, ha, ?_⟩
  rw [List.map_take] at e1
  unfold r__law_well
  generalize hC : iteM (boolM false (m2 (slotM 4) (conM (.int 0)) ltS) (m2 (slotM 4) (m2 (conM (.int 10)) (conM (.int 15)) (intS gPow)) geS)) (mL (consL (slotM 4) nilL) absS) (conM (.int 0)) = C at *
  generalize hO : iteM (m2 (slotM 1) (mL (consL (slotM 0) nilL) lenS) ltS) (mL (consL (m2 (slotM 0) (slotM 1) idxS) nilL) intS1) (conM (.int 0)) = Ow at *
  simp only [nD] at e1 eown ea
  simp [m0, someO_ap, c1, e1, eown, m4, m2', m5, m3, ea, newS, hlim]
end PM


set_option Elab.async false
set_option linter.all false
set_option maxRecDepth 100000
set_option maxHeartbeats 4000000
/-! PM10: rows and sights, plain. -/
namespace PM
open PySem PD

theorem low_sym (r : List Int) (a b : Nat) : lowH r a b = lowH r b a := by
  unfold lowH
  split <;> split <;> omega
theorem ht_inj {r : List Int} (nd : r.Nodup) {i j : Nat} (hi : i < r.length) (hj : j < r.length) (h : ht r i = ht r j) : i = j := by
  rw [ht_eq hi, ht_eq hj] at h
  exact (List.getElem_inj nd).mp h
theorem lawBars_sym (r : List Int) (a b : Nat) : lawBars r a b = lawBars r b a := by
  unfold lawBars
  rw [Nat.min_comm, Nat.max_comm, low_sym]
theorem low_or (r : List Int) (a b : Nat) : lowH r a b = ht r a ∨ lowH r a b = ht r b := by
  unfold lowH
  split
  · exact .inr rfl
  · exact .inl rfl
theorem lawBars_eq {r : List Int} (nd : r.Nodup) {a b : Nat} (hab : a < b) (hb : b < r.length) : lawBars r a b = barsL r a b := by
  unfold lawBars barsL
  rw [Nat.min_eq_left (by omega), Nat.max_eq_right (by omega)]
  refine List.filter_congr fun k hk => ?_
  obtain ⟨h1, h2⟩ := mem_up.mp hk
  have n1 : ht r k ≠ ht r a := fun z => by
    have := ht_inj nd (by omega) (by omega) z
    omega
  have n2 : ht r k ≠ ht r b := fun z => by
    have := ht_inj nd (by omega) hb z
    omega
  rcases low_or r a b with e | e <;> rw [e] <;> by_cases q : ht r k < lowH r a b <;> (rw [e] at q; simp; omega)
theorem see_left {r : List Int} (nd : r.Nodup) {k p : Nat} (h : k < p) (hp : p < r.length) : (lawBars r p k).isEmpty = see r k p := by
  rw [lawBars_sym, lawBars_eq nd h hp]
  rfl
theorem see_right {r : List Int} (nd : r.Nodup) {k p : Nat} (h : p < k) (hk : k < r.length) : (lawBars r p k).isEmpty = see r p k := by
  rw [lawBars_eq nd h hk]
  rfl
theorem up_split {a b c : Nat} (h1 : a ≤ b) (h2 : b ≤ c) : up a c = up a b ++ up b c := by
  unfold up
  rw [show c - a = (b - a) + (c - b) by omega, ← List.range'_append_1]
  rw [show a + (b - a) = b by omega]
theorem up_cons {a b : Nat} (h : a < b) : up a b = a :: up (a + 1) b := by
  unfold up
  rw [show b - a = (b - (a + 1)) + 1 by omega, List.range'_succ]
theorem up_nil {a b : Nat} (h : b ≤ a) : up a b = [] := by
  unfold up
  rw [show b - a = 0 by omega]
  rfl
theorem up_snoc {a b : Nat} (h : a ≤ b) : up a (b + 1) = up a b ++ [b] := by
  rw [up_split h (Nat.le_succ b), up_cons (Nat.lt_succ_self b), up_nil (Nat.le_refl _)]
theorem filter_none {α : Type} {l : List α} {p : α → Bool} (h : ∀ x ∈ l, p x = false) : l.filter p = [] := by
  rw [List.filter_eq_nil_iff]
  intro x hx
  rw [h x hx]
  simp
theorem lefts_eq {r : List Int} (nd : r.Nodup) {p : Nat} (hp : p < r.length) : (lawSeen r p).filter (fun k => decide (k < p)) = seenLeftL r p := by
  unfold lawSeen seenLeftL
  rw [List.filter_filter, up_split (Nat.zero_le p) (Nat.le_of_lt hp), List.filter_append]
  rw [filter_none (l := up p r.length) fun x hx => by
    have := (mem_up.mp hx).1
    have : ¬ x < p := by omega
    simp [this]]
  rw [List.append_nil]
  refine List.filter_congr fun k hk => ?_
  have hk := (mem_up.mp hk).2
  have : ¬ k = p := by omega
  simp [this, hk, see_left nd hk hp]
theorem rights_eq {r : List Int} (nd : r.Nodup) {p : Nat} (hp : p < r.length) : (lawSeen r p).filter (fun k => decide (p < k)) = (up (p + 1) r.length).filter fun k => see r p k := by
  unfold lawSeen
  rw [List.filter_filter, up_split (Nat.zero_le (p + 1)) hp, List.filter_append]
  rw [filter_none (l := up 0 (p + 1)) fun x hx => by
    have := (mem_up.mp hx).2
    have : ¬ p < x := by omega
    simp [this]]
  rw [List.nil_append]
  refine List.filter_congr fun k hk => ?_
  obtain ⟨h1, h2⟩ := mem_up.mp hk
  have q1 : ¬ k = p := by omega
  have q2 : p < k := by omega
  simp [q1, q2, see_right nd q2 h2]
theorem flat_filter {α β : Type} (l : List α) (f : α → List β) (q : β → Bool) : (l.flatMap f).filter q = l.flatMap fun a => (f a).filter q := by
  induction l with
  | nil => rfl
  | cons a l ih => simp only [List.flatMap_cons, List.filter_append, ih]
theorem flat_none {α β : Type} {l : List α} {f : α → List β} (h : ∀ a ∈ l, f a = []) : l.flatMap f = [] := by
  induction l with
  | nil => rfl
  | cons a l ih =>
    simp only [List.flatMap_cons]
    rw [h a List.mem_cons_self, ih fun b hb => h b (List.mem_cons_of_mem _ hb)]
    rfl
theorem fst_count {r : List Int} {p : Nat} (hp : p < r.length) : ((sightsL r).filter fun z => decide (z.1 = p)).length = ((up (p + 1) r.length).filter fun k => see r p k).length := by
  unfold sightsL pairsL
  rw [List.filter_filter, flat_filter, up_split (Nat.zero_le p) (Nat.le_of_lt hp), up_cons hp, List.flatMap_append, List.flatMap_cons]
  rw [flat_none (l := up 0 p) fun a ha => filter_none fun x hx => by
    obtain ⟨b, _, rfl⟩ := List.mem_map.mp hx
    have := (mem_up.mp ha).2
    have q : ¬ a = p := by omega
    simp [q]]
  rw [flat_none (l := up (p + 1) r.length) fun a ha => filter_none fun x hx => by
    obtain ⟨b, _, rfl⟩ := List.mem_map.mp hx
    have := (mem_up.mp ha).1
    have q : ¬ a = p := by omega
    simp [q]]
  rw [List.nil_append, List.append_nil, filter_map', List.length_map]
  simp
theorem one_in {p n a : Nat} (q : Nat → Bool) (ha : a < p) (hp : p < n) : (up (a + 1) n).filter (fun b => decide (b = p) && q b) = if q p = true then [p] else [] := by
  rw [up_split (a := a + 1) (b := p) (c := n) (by omega) (by omega), up_cons hp, List.filter_append, List.filter_cons]
  rw [filter_none (l := up (a + 1) p) fun x hx => by
    have := (mem_up.mp hx).2
    have q : ¬ x = p := by omega
    simp [q]]
  rw [filter_none (l := up (p + 1) n) fun x hx => by
    have := (mem_up.mp hx).1
    have q : ¬ x = p := by omega
    simp [q]]
  simp
theorem flat_len {α β : Type} (l : List α) (c : α → Bool) (f : α → List β) (h : ∀ a ∈ l, (f a).length = if c a = true then 1 else 0) : (l.flatMap f).length = (l.filter c).length := by
  induction l with
  | nil => rfl
  | cons a l ih =>
    have ih := ih fun b hb => h b (List.mem_cons_of_mem _ hb)
    simp only [List.flatMap_cons, List.length_append, h a List.mem_cons_self, ih, List.filter_cons]
    cases c a <;> simp <;> omega
theorem snd_count {r : List Int} {p : Nat} (hp : p < r.length) : ((sightsL r).filter fun z => decide (z.2 = p)).length = (seenLeftL r p).length := by
  unfold sightsL pairsL seenLeftL
  rw [List.filter_filter, flat_filter, up_split (Nat.zero_le p) (Nat.le_of_lt hp), List.flatMap_append]
  rw [flat_none (l := up p r.length) fun a ha => filter_none fun x hx => by
    obtain ⟨b, hb, rfl⟩ := List.mem_map.mp hx
    have h1 := (mem_up.mp ha).1
    have h2 := (mem_up.mp hb).1
    have q : ¬ b = p := by omega
    simp [q]]
  rw [List.append_nil]
  refine flat_len _ (fun k => see r k p) _ fun a ha => ?_
  rw [filter_map', List.length_map]
  have := one_in (p := p) (n := r.length) (a := a) (fun b => see r a b) (mem_up.mp ha).2 hp
  simp only [] at this ⊢
  rw [this]
  split <;> simp_all
/-! ### bounds of the looks -/
/-- seen from behind the first p -/
def inSt (r : List Int) (p k : Nat) : Bool := (up (k + 1) p).all fun j => decide (ht r j < ht r k)
def St (r : List Int) (p : Nat) : List Nat := (up 0 p).filter (inSt r p)
theorem see_iff {r : List Int} {k p : Nat} : see r k p = true ↔ ∀ j, k < j → j < p → ht r j < lowH r k p := by
  unfold see barsL
  rw [List.isEmpty_iff, List.filter_eq_nil_iff]
  constructor
  · intro h j h1 h2
    have := h j (mem_up.mpr ⟨h1, h2⟩)
    simp at this
    exact this
  · intro h j hj
    obtain ⟨h1, h2⟩ := mem_up.mp hj
    have := h j h1 h2
    simp
    omega
theorem low_le (r : List Int) (a b : Nat) : lowH r a b ≤ ht r a ∧ lowH r a b ≤ ht r b := by
  unfold lowH
  split <;> omega
theorem st_iff {r : List Int} {p k : Nat} : inSt r p k = true ↔ ∀ j, k < j → j < p → ht r j < ht r k := by
  unfold inSt
  rw [List.all_eq_true]
  constructor
  · exact fun h j h1 h2 => of_decide_eq_true (h j (mem_up.mpr ⟨h1, h2⟩))
  · exact fun h j hj => decide_eq_true (h j (mem_up.mp hj).1 (mem_up.mp hj).2)
theorem filter_le {α : Type} {p q : α → Bool} : ∀ (l : List α), (∀ x ∈ l, p x = true → q x = true) → (l.filter p).length ≤ (l.filter q).length
  | [], _ => Nat.le_refl _
  | a :: l, h => by
    have ih := filter_le l fun x hx => h x (List.mem_cons_of_mem _ hx)
    rw [List.filter_cons, List.filter_cons]
    cases e : p a with
    | true =>
      rw [h a List.mem_cons_self e]
      simp
      exact ih
    | false =>
      cases q a <;> simp <;> omega
theorem filter_two {α : Type} (p q : α → Bool) : ∀ (l : List α), (l.filter p).length = (l.filter fun x => p x && q x).length + (l.filter fun x => p x && !q x).length
  | [] => rfl
  | a :: l => by
    have ih := filter_two p q l
    rw [List.filter_cons, List.filter_cons, List.filter_cons]
    cases p a <;> cases q a <;> simp <;> omega
theorem st_succ (r : List Int) (p : Nat) : (St r (p + 1)).length = ((up 0 p).filter fun k => inSt r p k && decide (ht r p < ht r k)).length + 1 := by
  unfold St
  rw [up_snoc (Nat.zero_le p), List.filter_append, List.length_append]
  have e1 : [p].filter (inSt r (p + 1)) = [p] := by
    rw [List.filter_cons]
    have : inSt r (p + 1) p = true := st_iff.mpr fun j h1 h2 => by omega
    rw [this]
    rfl
  rw [e1]
  show _ + 1 = _
  congr 2
  refine List.filter_congr fun k hk => ?_
  have hk := (mem_up.mp hk).2
  rw [Bool.eq_iff_iff, Bool.and_eq_true, decide_eq_true_eq, st_iff, st_iff]
  constructor
  · exact fun h => ⟨fun j h1 h2 => h j h1 (by omega), h p hk (by omega)⟩
  · rintro ⟨h1, h2⟩ j hj1 hj2
    by_cases q : j = p
    · rw [q]; exact h2
    · exact h1 j hj1 (by omega)
theorem up_pair (a b : Nat) : (up a b).Pairwise (· < ·) := by
  unfold up
  exact List.pairwise_lt_range'
theorem look_step (r : List Int) (p : Nat) : (St r (p + 1)).length + (seenLeftL r p).length ≤ (St r p).length + 2 := by
  rw [st_succ]
  have s1 := filter_two (inSt r p) (fun k => decide (ht r p < ht r k)) (up 0 p)
  have s2 := filter_two (fun k => see r k p) (fun k => decide (ht r p < ht r k)) (up 0 p)
  have a1 : ((up 0 p).filter fun k => see r k p && decide (ht r p < ht r k)).length ≤ 1 := by
    have pw : ((up 0 p).filter fun k => see r k p && decide (ht r p < ht r k)).Pairwise (· < ·) := (up_pair 0 p).sublist List.filter_sublist
    cases hl : (up 0 p).filter fun k => see r k p && decide (ht r p < ht r k) with
    | nil => simp
    | cons x l =>
      cases l with
      | nil => simp
      | cons y l =>
        rw [hl] at pw
        have hxy : x < y := (List.pairwise_cons.mp pw).1 y List.mem_cons_self
        have hx : x ∈ (up 0 p).filter fun k => see r k p && decide (ht r p < ht r k) := by rw [hl]; exact List.mem_cons_self
        have hy : y ∈ (up 0 p).filter fun k => see r k p && decide (ht r p < ht r k) := by rw [hl]; exact List.mem_cons_of_mem _ List.mem_cons_self
        rw [List.mem_filter, Bool.and_eq_true, decide_eq_true_eq, mem_up] at hx hy
        have := see_iff.mp hx.2.1 y hxy hy.1.2
        have := (low_le r x p).2
        omega
  have a2 : ((up 0 p).filter fun k => see r k p && !decide (ht r p < ht r k)).length ≤ ((up 0 p).filter fun k => inSt r p k && !decide (ht r p < ht r k)).length := filter_le _ fun k hk h => by
    rw [Bool.and_eq_true] at h ⊢
    refine ⟨st_iff.mpr fun j h1 h2 => ?_, h.2⟩
    have := see_iff.mp h.1 j h1 h2
    have := (low_le r k p).1
    omega
  unfold seenLeftL St
  omega
theorem look_le (r : List Int) (p : Nat) : (seenLeftL r p).length ≤ (St r p).length := filter_le _ fun k hk h => st_iff.mpr fun j h1 h2 => by
  have := see_iff.mp h j h1 h2
  have := (low_le r k p).1
  omega
theorem look_pos (r : List Int) (p : Nat) (hp : 0 < p) : 1 ≤ (seenLeftL r p).length := by
  have : p - 1 ∈ seenLeftL r p := List.mem_filter.mpr ⟨mem_up.mpr ⟨by omega, by omega⟩, see_iff.mpr fun j h1 h2 => by omega⟩
  exact List.length_pos_of_mem this
theorem st_one (r : List Int) : (St r 1).length = 1 := by
  rw [st_succ]
  rfl
end PM


set_option Elab.async false
set_option linter.all false
set_option maxRecDepth 100000
set_option maxHeartbeats 0
namespace K77
open PySem PySem.Spec PyProof.Rows L2 LamX NdefX PD
def top (i : Nat) : Stmt := PySem.Challenge.pw_sightrows_k77_whole_arrivals_and_climbs.main.body.getD i (.Pass ⟨0, 0, 0, 0⟩)
abbrev fuel : Nat := PM.fuel
def s0 : Stmt := top 6
def s1 : Stmt := top 7
def s2 : Stmt := top 8
def s3 : Stmt := top 9
def s4 : Stmt := top 13
def s5 : Stmt := top 14
def s6 : Stmt := top 15
def s7 : Stmt := top 16
def s8 : Stmt := top 17
def s9 : Stmt := top 18
def s10 : Stmt := top 19
def s11 : Stmt := top 20
def s12 : Stmt := top 22
def s13 : Stmt := top 23
def s14 : Stmt := top 24
def s15 : Stmt := top 25
def s16 : Stmt := top 26
def s17 : Stmt := top 28
def s18 : Stmt := top 29
def s19 : Stmt := top 30
def s20 : Stmt := top 31
def s21 : Stmt := top 33
def s22 : Stmt := top 34
def s23 : Stmt := top 35
def s24 : Stmt := top 36
def s25 : Stmt := top 37
def s26 : Stmt := top 39
def s27 : Stmt := top 40
def s28 : Stmt := top 41
def s29 : Stmt := top 42
def s30 : Stmt := top 43
def s31 : Stmt := top 44
def s32 : Stmt := top 45
def s33 : Stmt := top 46
def s34 : Stmt := top 47
def s35 : Stmt := top 48
def s36 : Stmt := top 49
def s37 : Stmt := top 50
def n0 : Stmt := (defBody s5).getD 0 (.Pass ⟨0, 0, 0, 0⟩)
def tx : Text := { fns := [⟨"is_whole", ["value"]⟩, ⟨"is_number", ["value", "low", "high"]⟩, ⟨"wrong_at", ["value", "is_right"]⟩, ⟨"wrong_or_none", ["value", "is_right"]⟩, ⟨"is_height", ["value"]⟩, ⟨"wrong_row", ["value"]⟩, ⟨"bars_between", ["row", "one", "two"]⟩, ⟨"do_see_in", ["row", "one", "two"]⟩, ⟨"pairs_of_all", ["many"]⟩, ⟨"sights_of", ["row"]⟩, ⟨"taller_beside", ["row", "person"]⟩, ⟨"next_up_of", ["row", "person"]⟩, ⟨"check_number", ["value", "low", "high"]⟩, ⟨"check_any_number", ["value"]⟩, ⟨"check_row", ["value"]⟩, ⟨"check_person_of", ["many", "value"]⟩, ⟨"check_person", ["row", "person"]⟩, ⟨"climb_of", ["row", "person"]⟩, ⟨"next_up", ["row", "person"]⟩, ⟨"climb", ["row", "person"]⟩, ⟨"depths", ["row"]⟩, ⟨"looks_to_left", ["row"]⟩, ⟨"looks_to_right", ["row"]⟩, ⟨"looks_left", ["row"]⟩, ⟨"looks_right", ["row"]⟩, ⟨"seen_left", ["row", "person"]⟩, ⟨"_law_well", ["script", "lap"]⟩, ⟨"_law_draw", ["well", "limit"]⟩, ⟨"_law_of", ["well", "some"]⟩, ⟨"_law_same", ["one", "two"]⟩, ⟨"_law_row", ["well", "least", "most"]⟩, ⟨"_law_bars", ["row", "one", "two"]⟩, ⟨"_law_seen", ["row", "person"]⟩, ⟨"_law_covers", ["row", "person"]⟩, ⟨"_law_up", ["row", "person"]⟩, ⟨"_law_climb", ["row", "person"]⟩, ⟨"_law_right", ["well"]⟩, ⟨"law", ["script"]⟩], clos := [["each", "before"]], free := ["abs", "all", "bool", "divmod", "enumerate", "int", "isinstance", "len", "max", "min", "range", "sorted", "tuple"], nums := [("MOST_HEIGHT", 999), ("MOST_PERSONS", 12)] }
def nameOf : Nat → Str
  | 0 => "is_whole"
  | 1 => "is_number"
  | 2 => "wrong_at"
  | 3 => "wrong_or_none"
  | 4 => "is_height"
  | 5 => "wrong_row"
  | 6 => "bars_between"
  | 7 => "do_see_in"
  | 8 => "pairs_of_all"
  | 9 => "sights_of"
  | 10 => "taller_beside"
  | 11 => "next_up_of"
  | 12 => "check_number"
  | 13 => "check_any_number"
  | 14 => "check_row"
  | 15 => "check_person_of"
  | 16 => "check_person"
  | 17 => "climb_of"
  | 18 => "next_up"
  | 19 => "climb"
  | 20 => "depths"
  | 21 => "looks_to_left"
  | 22 => "looks_to_right"
  | 23 => "looks_left"
  | 24 => "looks_right"
  | 25 => "seen_left"
  | 26 => "_law_well"
  | 27 => "_law_draw"
  | 28 => "_law_of"
  | 29 => "_law_same"
  | 30 => "_law_row"
  | 31 => "_law_bars"
  | 32 => "_law_seen"
  | 33 => "_law_covers"
  | 34 => "_law_up"
  | 35 => "_law_climb"
  | 36 => "_law_right"
  | 37 => "law"
  | _ => "?"
def cfK (j : Nat) (c : Addr) : NF := match j with
  | 0 => ⟨"is_right", "wrong_row.<locals>.is_right", C8.fnArgs n0, C8.fnBody n0, C8.fnScope n0, [], c⟩
  | _ => ⟨"?", "?", ⟨[], [], none, [], [], none, []⟩, [], ⟨.function, [], false, false, []⟩, [], c⟩
abbrev tf : List He.Defn := [("wrong_row", none), ("next_up_of", none)]
def nm0 : Nat → Nat → Str := fun _ _ => "wrong_row.<locals>.is_right"
abbrev cd0 (K : PySem.W.Frag) : Addr := (He.cT K ("wrong_row", none)).1
abbrev tb0 (K : PySem.W.Frag) : Addr := (He.cT K ("wrong_row", none)).2
def nm1 : Nat → Nat → Str := fun _ _ => "next_up_of.<locals>.<lambda>"
abbrev cd1 (K : PySem.W.Frag) : Addr := (He.cT K ("next_up_of", none)).1
abbrev nml0 := nm1
abbrev tb1 (K : PySem.W.Frag) : Addr := (He.cT K ("next_up_of", none)).2
def tabsK (K : PySem.W.Frag) : List NTab := [(tb0 K, nm0), (tb1 K, nm1)]
def Gk (w : World) (K : PySem.W.Frag) (mg : Str → Option Value) (base : Heap) : G0 := ⟨PySem.Challenge.rw_sightrows_k77_whole_arrivals_and_climbs.prog, w, ⟨K, fun i => He.fAd K (nameOf i, none), tabsK K, cfK⟩, mg, base⟩
structure TabH (K : PySem.W.Frag) (mg : Str → Option Value) (base : Heap) : Prop where
  t0 : TabB base mg (cd0 K) (tb0 K)
  t1 : TabB base mg (cd1 K) (tb1 K)
  d01 : tb0 K ≠ tb1 K
  d10 : tb1 K ≠ tb0 K
section
variable {w : World} {K : PySem.W.Frag} {mg : Str → Option Value} {base : Heap} {k : Nat} {sem csem : Nat → MF} {X : Cx}
def f0 (sem csem : Nat → MF) : MS := PM.r_is_whole
def f1 (sem csem : Nat → MF) : MS := PM.r_is_number (sem 0)
def f2 (sem csem : Nat → MF) : MS := PM.r_wrong_at (heldC tx csem) (heldF tx sem)
def f3 (sem csem : Nat → MF) : MS := PM.r_wrong_or_none (sem 2)
def f4 (sem csem : Nat → MF) : MS := PM.r_is_height (sem 1)
def f5 (sem csem : Nat → MF) : MS := PM.r_wrong_row (sem 3) 0
def f6 (sem csem : Nat → MF) : MS := PM.r_bars_between
def f7 (sem csem : Nat → MF) : MS := PM.r_do_see_in (sem 6)
def f8 (sem csem : Nat → MF) : MS := PM.r_pairs_of_all
def f9 (sem csem : Nat → MF) : MS := PM.r_sights_of (sem 7) (sem 8)
def f10 (sem csem : Nat → MF) : MS := PM.r_taller_beside
def f11 (sem csem : Nat → MF) : MS := PM.r_next_up_of (sem 10)
def f12 (sem csem : Nat → MF) : MS := PM.r_check_number (sem 1)
def f13 (sem csem : Nat → MF) : MS := PM.r_check_any_number (sem 12)
def f14 (sem csem : Nat → MF) : MS := PM.r_check_row (sem 5)
def f15 (sem csem : Nat → MF) : MS := PM.r_check_person_of (sem 13)
def f16 (sem csem : Nat → MF) : MS := PM.r_check_person (sem 15) (sem 14)
def f17 (sem csem : Nat → MF) : MS := PM.r_climb_of (sem 11)
def f18 (sem csem : Nat → MF) : MS := PM.r_next_up (sem 16) (sem 11)
def f19 (sem csem : Nat → MF) : MS := PM.r_climb (sem 16) (sem 17)
def f20 (sem csem : Nat → MF) : MS := PM.r_depths (sem 14) (sem 17)
def f21 (sem csem : Nat → MF) : MS := PM.r_looks_to_left (sem 9)
def f22 (sem csem : Nat → MF) : MS := PM.r_looks_to_right (sem 9)
def f23 (sem csem : Nat → MF) : MS := PM.r_looks_left (sem 14) (sem 21)
def f24 (sem csem : Nat → MF) : MS := PM.r_looks_right (sem 14) (sem 22)
def f25 (sem csem : Nat → MF) : MS := PM.r_seen_left (sem 16) (sem 7)
def f26 (sem csem : Nat → MF) : MS := PM.r__law_well
def f27 (sem csem : Nat → MF) : MS := PM.r__law_draw
def f28 (sem csem : Nat → MF) : MS := PM.r__law_of (sem 27)
def f29 (sem csem : Nat → MF) : MS := PM.r__law_same (sem 29)
def f30 (sem csem : Nat → MF) : MS := PM.r__law_row (sem 27) (sem 28)
def f31 (sem csem : Nat → MF) : MS := PM.r__law_bars
def f32 (sem csem : Nat → MF) : MS := PM.r__law_seen (sem 31)
def f33 (sem csem : Nat → MF) : MS := PM.r__law_covers
def f34 (sem csem : Nat → MF) : MS := PM.r__law_up (sem 33)
def f35 (sem csem : Nat → MF) : MS := PM.r__law_climb (sem 34)
def r__law_right (F__law_climb : MF) (F__law_row : MF) (F__law_same : MF) (F__law_seen : MF) (F__law_up : MF) (F_climb : MF) (F_depths : MF) (F_looks_left : MF) (F_looks_right : MF) (F_next_up : MF) (F_seen_left : MF) : MS := (seqS (asgS (mL (consL (slotM 0) (consL (conM (.int 1)) (consL (conM (.int 10)) nilL))) (callS F__law_row 3)) (setE 1)) (seqS (asgS (compM [4] (rng1 (consL (mL (consL (slotM 1) nilL) lenS) nilL)) (setE 4) yesM (mL (consL (compM [3] (seqI (mL (consL (slotM 1) (consL (slotM 4) nilL)) (callS F__law_seen 2))) (setE 3) (truM (m2 (slotM 3) (slotM 4) ltS)) (slotM 3)) nilL) tupleS)) (setE 2)) (seqS (asgS (mL (consL (compM [6] (seqI (slotM 2)) (setE 6) yesM (mL (consL (slotM 6) nilL) lenS)) nilL) tupleS) (setE 5)) (seqS (asgS (mL (consL (compM [4] (rng1 (consL (mL (consL (slotM 1) nilL) lenS) nilL)) (setE 4) yesM (mL (consL (compM [3] (seqI (mL (consL (slotM 1) (consL (slotM 4) nilL)) (callS F__law_seen 2))) (setE 3) (truM (m2 (slotM 3) (slotM 4) gtS)) (slotM 3)) nilL) lenS)) nilL) tupleS) (setE 7)) (seqS (ifS (notM (mL (consL (mL (consL (mL (consL (slotM 1) nilL) (callS F_looks_left 1)) (consL (callK F_looks_left 1 [0] nilL (consL (slotM 1) nilL)) nilL)) tupS) (consL (mL (consL (slotM 5) (consL (slotM 5) nilL)) tupS) nilL)) (callS F__law_same 2))) (seqS (retS (conM (.bl false))) nextS) nextS) (seqS (ifS (notM (mL (consL (mL (consL (mL (consL (slotM 1) nilL) (callS F_looks_right 1)) (consL (callK F_looks_right 1 [0] nilL (consL (slotM 1) nilL)) nilL)) tupS) (consL (mL (consL (slotM 7) (consL (slotM 7) nilL)) tupS) nilL)) (callS F__law_same 2))) (seqS (retS (conM (.bl false))) nextS) nextS) (seqS (asgS (conM (.int 1)) (setE 8)) (seqS (forS (rng1 (consL (mL (consL (slotM 1) nilL) lenS) nilL)) (setE 4) (seqS (ifS (boolM false (m2 (m2 (slotM 5) (slotM 4) idxS) (iteM (m2 (slotM 4) (conM (.int 0)) gtS) (slotM 8) (conM (.int 0))) gtS) (boolM true (m2 (slotM 4) (conM (.int 0)) gtS) (m2 (m2 (slotM 5) (slotM 4) idxS) (conM (.int 1)) ltS))) (seqS (retS (conM (.bl false))) nextS) nextS) (seqS (asgS (iteM (m2 (slotM 4) (conM (.int 0)) gtS) (m2 (m2 (slotM 8) (m2 (slotM 5) (slotM 4) idxS) (intS fun i j => some (i - j))) (conM (.int 2)) addS) (conM (.int 1))) (setE 8)) (seqS (asgS (mL (consL (mL (consL (slotM 1) (consL (slotM 4) nilL)) (callS F_seen_left 2)) (consL (callK F_seen_left 2 [0, 1] (consL (slotM 1) nilL) (consL (slotM 4) nilL)) nilL)) tupS) (setE 9)) (seqS (ifS (notM (mL (consL (slotM 9) (consL (mL (consL (m2 (slotM 2) (slotM 4) idxS) (consL (m2 (slotM 2) (slotM 4) idxS) nilL)) tupS) nilL)) (callS F__law_same 2))) (seqS (retS (conM (.bl false))) nextS) nextS) (seqS (parS [10, 11] (consL (mL (consL (slotM 1) (consL (slotM 4) nilL)) (callS F__law_up 2)) (consL (mL (consL (slotM 1) (consL (slotM 4) nilL)) (callS F__law_climb 2)) nilL))) (seqS (ifS (notM (mL (consL (mL (consL (mL (consL (slotM 1) (consL (slotM 4) nilL)) (callS F_next_up 2)) (consL (callK F_next_up 2 [0, 1] (consL (slotM 1) nilL) (consL (slotM 4) nilL)) nilL)) tupS) (consL (mL (consL (slotM 10) (consL (slotM 10) nilL)) tupS) nilL)) (callS F__law_same 2))) (seqS (retS (conM (.bl false))) nextS) nextS) (seqS (ifS (notM (mL (consL (mL (consL (mL (consL (slotM 1) (consL (slotM 4) nilL)) (callS F_climb 2)) (consL (callK F_climb 2 [0, 1] (consL (slotM 1) nilL) (consL (slotM 4) nilL)) nilL)) tupS) (consL (mL (consL (slotM 11) (consL (slotM 11) nilL)) tupS) nilL)) (callS F__law_same 2))) (seqS (retS (conM (.bl false))) nextS) nextS) nextS)))))))) (seqS (asgS (mL (consL (compM [4] (rng1 (consL (mL (consL (slotM 1) nilL) lenS) nilL)) (setE 4) yesM (m2 (mL (consL (mL (consL (slotM 1) (consL (slotM 4) nilL)) (callS F__law_climb 2)) nilL) lenS) (conM (.int 1)) (intS fun i j => some (i - j)))) nilL) tupleS) (setE 12)) (seqS (retS (mL (consL (mL (consL (mL (consL (slotM 1) nilL) (callS F_depths 1)) (consL (callK F_depths 1 [0] nilL (consL (slotM 1) nilL)) nilL)) tupS) (consL (mL (consL (slotM 12) (consL (slotM 12) nilL)) tupS) nilL)) (callS F__law_same 2))) nextS))))))))))
def f36 (sem csem : Nat → MF) : MS := r__law_right (sem 35) (sem 30) (sem 29) (sem 32) (sem 34) (sem 19) (sem 20) (sem 23) (sem 24) (sem 18) (sem 25)
def f37 (sem csem : Nat → MF) : MS := PM.r_law (sem 36) (sem 26)
def c0 (sem csem : Nat → MF) : MS := PM.r_is_right (sem 4)
theorem hu0 (T : TabH K mg base) : ∀ p ∈ tabsK K, p.1 = tb0 K → p.2 = nm0 := by
  intro p hp e
  simp only [tabsK, List.mem_cons, List.not_mem_nil, or_false] at hp
  rcases hp with rfl | rfl
  · rfl
  · exact absurd e T.d10
theorem hu1 (T : TabH K mg base) : ∀ p ∈ tabsK K, p.1 = tb1 K → p.2 = nm1 := by
  intro p hp e
  simp only [tabsK, List.mem_cons, List.not_mem_nil, or_false] at hp
  rcases hp with rfl | rfl
  · exact absurd e T.d01
  · rfl
theorem TabH.tl0 (T : TabH K mg base) : TabB base mg (cd1 K) (tb1 K) := T.t1
theorem hul0 (T : TabH K mg base) : ∀ p ∈ tabsK K, p.1 = tb1 K → p.2 = nm1 := hu1 T
theorem nd0 (T : TabH K mg base) {i : Nat} {N : List Str} {sc : Scope} {own : Str → Bool} (g : Good tx (Gk w K mg base) k sem csem N sc own X) (hcode : X.env.code = .ref (cd0 K)) (hq : X.env.qual = Str.ofString "wrong_row" ++ ".<locals>.") (hl : locB N sc own i "is_right" = true) (hn : n0 = .FunctionDef "is_right" (C8.fnArgs n0) (C8.fnBody n0) [] none [] (C8.fnScope n0) none "is_right" ⟨42, 4, 43, 86⟩) :
    PS X n0 (tS (Gk w K mg base).B (ndefS i 0)) := by
  rw [hn]
  exact g_ndef (nm := nm0) (q := Str.ofString "wrong_row" ++ ".<locals>.") g T.t0 hcode hq (by simp [Gk, tabsK]) (by decide +kernel) (hu0 T) (by decide +kernel) rfl rfl (fun _ => rfl) hl (fun _ => rfl)
theorem b0 (g : Good tx (Gk w K mg base) k sem csem ["value"] (defScope s0) (fun _ => true) X) : PSs X (defBody s0) (tS (Gk w K mg base).B (f0 sem csem)) :=
  (ds_cons (ds_ret (g_and g (g_isi g (T := "int") (by decide) (by decide +kernel) (by decide +kernel) (g_slot g (i := 0) (by decide +kernel)) rfl) (de_one (g_not g (g_isi g (T := "bool") (by decide) (by decide +kernel) (by decide +kernel) (g_slot g (i := 0) (by decide +kernel)) rfl))))) ds_nilS)
theorem b1 (g : Good tx (Gk w K mg base) k sem csem ["value", "low", "high"] (defScope s1) (fun _ => true) X) : PSs X (defBody s1) (tS (Gk w K mg base).B (f1 sem csem)) :=
  (ds_cons (ds_if (dt_pw (dw_or (dt_not (g_plain g (g_call g (i := 0) (n := 1) (by decide +kernel) (ga_cons (g_slot g (i := 0) (by decide +kernel)) da_nil rfl) rfl) (fun _ _ => rfl))) (dw_one .Or (dt_pw (dw_and (g_isnot g (g_slot g (i := 1) (by decide +kernel)) de_non rfl).2 (dw_one .And (g_lt g (g_slot g (i := 0) (by decide +kernel)) (g_slot g (i := 1) (by decide +kernel)) rfl).2)))))) (ds_cons (ds_ret de_bl) ds_nilS) ds_nilS) (ds_cons (ds_ret (g_or g (g_is g (g_slot g (i := 2) (by decide +kernel)) de_non rfl).1 (de_one (g_le g (g_slot g (i := 0) (by decide +kernel)) (g_slot g (i := 2) (by decide +kernel)) rfl).1))) ds_nilS))
theorem b2 (g : Good tx (Gk w K mg base) k sem csem ["value", "is_right", "at", "each"] (defScope s2) (fun _ => true) X) : PSs X (defBody s2) (tS (Gk w K mg base).B (f2 sem csem)) :=
  (ds_cons (ds_if (dt_not (g_plain g (g_isi g (T := "tuple") (by decide) (by decide +kernel) (by decide +kernel) (g_slot g (i := 0) (by decide +kernel)) rfl) (fun _ _ => rfl))) (ds_cons (ds_ret (de_lst (ga_cons de_non da_nil rfl))) ds_nilS) ds_nilS) (ds_cons (g_for g (gi_enum g (by decide +kernel) (ga_cons (g_slot g (i := 0) (by decide +kernel)) da_nil rfl) rfl) (g_tupT g (dgs_cons (g_name g (i := 2) (by decide +kernel)) (dgs_cons (g_name g (i := 3) (by decide +kernel)) dgs_nil rfl) rfl) rfl) (ds_cons (ds_if (dt_not (g_plain g (g_callV g (i := 1) (by decide +kernel) (ga_cons (g_slot g (i := 3) (by decide +kernel)) (ga_cons (g_slice g (g_slot g (i := 0) (by decide +kernel)) do_none (do_some (g_slot g (i := 2) (by decide +kernel)))) da_nil rfl) rfl) rfl) (fun _ _ => rfl))) (ds_cons (ds_ret (de_lst (ga_cons (g_slot g (i := 2) (by decide +kernel)) da_nil rfl))) ds_nilS) ds_nilS) ds_nilS) (fun _ _ => rfl)) (ds_cons (ds_ret (de_lst da_nil)) ds_nilS)))
theorem b3 (g : Good tx (Gk w K mg base) k sem csem ["value", "is_right"] (defScope s3) (fun _ => true) X) : PSs X (defBody s3) (tS (Gk w K mg base).B (f3 sem csem)) :=
  (ds_cons (ds_ret (de_ite (dt_pw (dw_and (g_plain g (g_isi g (T := "tuple") (by decide) (by decide +kernel) (by decide +kernel) (g_slot g (i := 0) (by decide +kernel)) rfl) (fun _ _ => rfl)) (dw_one .And (g_eq g (g_slot g (i := 0) (by decide +kernel)) (de_tup da_nil) rfl).2))) (de_lst (ga_cons de_non da_nil rfl)) (g_call g (i := 2) (n := 2) (by decide +kernel) (ga_cons (g_slot g (i := 0) (by decide +kernel)) (ga_cons (g_slot g (i := 1) (by decide +kernel)) da_nil rfl) rfl) rfl))) ds_nilS)
theorem b4 (g : Good tx (Gk w K mg base) k sem csem ["value"] (defScope s4) (fun _ => true) X) : PSs X (defBody s4) (tS (Gk w K mg base).B (f4 sem csem)) :=
  (ds_cons (ds_ret (g_call g (i := 1) (n := 3) (by decide +kernel) (ga_cons (g_slot g (i := 0) (by decide +kernel)) (ga_cons de_int (ga_cons (g_globI g (v := 999) (by decide +kernel)) da_nil rfl) rfl) rfl) rfl)) ds_nilS)
theorem b5 (T : TabH K mg base) (hcode : X.env.code = .ref (cd0 K)) (hq : X.env.qual = Str.ofString "wrong_row" ++ ".<locals>.") (g : Good tx (Gk w K mg base) k sem csem ["value", "is_right"] (defScope s5) (fun _ => true) X) : PSs X (defBody s5) (tS (Gk w K mg base).B (f5 sem csem)) :=
  (ds_cons (nd0 T (i := 1) g hcode hq (by decide +kernel) rfl) (ds_cons (ds_ret (g_call g (i := 3) (n := 2) (by decide +kernel) (ga_cons (g_slot g (i := 0) (by decide +kernel)) (ga_cons (g_slot g (i := 1) (by decide +kernel)) da_nil rfl) rfl) rfl)) ds_nilS))
theorem b6 (g : Good tx (Gk w K mg base) k sem csem ["row", "one", "two", "lower", "person"] (defScope s6) (fun _ => true) X) : PSs X (defBody s6) (tS (Gk w K mg base).B (f6 sem csem)) :=
  (ds_cons (g_asg (g_min g (by decide +kernel) (ga_cons (g_ix g (g_slot g (i := 0) (by decide +kernel)) (g_slot g (i := 1) (by decide +kernel)) (fun _ _ => rfl)) (ga_cons (g_ix g (g_slot g (i := 0) (by decide +kernel)) (g_slot g (i := 2) (by decide +kernel)) (fun _ _ => rfl)) da_nil rfl) rfl) rfl) (g_name g (i := 3) (by decide +kernel)) (fun _ _ => rfl) (fun _ => rfl) rfl) (ds_cons (ds_ret (g_comp g (ow := [("person", 4)]) (by decide +kernel) (gi_rng2 g (by decide +kernel) (ga_cons (g_add g (g_slot g (i := 1) (by decide +kernel)) de_int) (ga_cons (g_slot g (i := 2) (by decide +kernel)) da_nil rfl) rfl) rfl rfl) (fun X1 g1 => (gc_name g1 (i := 4) (by decide +kernel))) (fun X1 g1 => (ds_one (g_ge g1 (g_ix g1 (g_slot g1 (i := 0) (by decide +kernel)) (g_slot g1 (i := 4) (by decide +kernel)) (fun _ _ => rfl)) (g_slot g1 (i := 3) (by decide +kernel)) rfl).2)) (fun X1 g1 => (g_slot g1 (i := 4) (by decide +kernel))) (fun _ _ => rfl))) ds_nilS))
theorem b7 (g : Good tx (Gk w K mg base) k sem csem ["row", "one", "two"] (defScope s7) (fun _ => true) X) : PSs X (defBody s7) (tS (Gk w K mg base).B (f7 sem csem)) :=
  (ds_cons (ds_ret (g_eq g (g_call g (i := 6) (n := 3) (by decide +kernel) (ga_cons (g_slot g (i := 0) (by decide +kernel)) (ga_cons (g_slot g (i := 1) (by decide +kernel)) (ga_cons (g_slot g (i := 2) (by decide +kernel)) da_nil rfl) rfl) rfl) rfl) (de_lst da_nil) rfl).1) ds_nilS)
theorem b8 (g : Good tx (Gk w K mg base) k sem csem ["many", "one", "two"] (defScope s8) (fun _ => true) X) : PSs X (defBody s8) (tS (Gk w K mg base).B (f8 sem csem)) :=
  (ds_cons (ds_ret (g_comp2 g (ow := [("one", 1), ("two", 2)]) (vs1 := [2]) (by decide +kernel) (gi_rng1 g (by decide +kernel) (ga_cons (g_slot g (i := 0) (by decide +kernel)) da_nil rfl) rfl) (fun X1 g1 => (gc_name g1 (i := 1) (by decide +kernel))) (fun X1 g1 => ds_nil) (fun X1 g1 => (gi_rng2 g1 (by decide +kernel) (ga_cons (g_add g1 (g_slot g1 (i := 1) (by decide +kernel)) de_int) (ga_cons (g_slot g1 (i := 0) (by decide +kernel)) da_nil rfl) rfl) rfl rfl)) (fun X1 g1 => (gc_name g1 (i := 2) (by decide +kernel))) (fun X1 g1 => ds_nil) (fun X1 g1 => (de_tup (ga_cons (g_slot g1 (i := 1) (by decide +kernel)) (ga_cons (g_slot g1 (i := 2) (by decide +kernel)) da_nil rfl) rfl))) (fun _ _ => rfl) (fun _ _ => rfl))) ds_nilS)
theorem b9 (g : Good tx (Gk w K mg base) k sem csem ["row", "pair"] (defScope s9) (fun _ => true) X) : PSs X (defBody s9) (tS (Gk w K mg base).B (f9 sem csem)) :=
  (ds_cons (ds_ret (g_tuple g (by decide +kernel) (ga_cons (g_comp g (ow := [("pair", 1)]) (by decide +kernel) (gi_seq g (g_call g (i := 8) (n := 1) (by decide +kernel) (ga_cons (g_len g (by decide +kernel) (ga_cons (g_slot g (i := 0) (by decide +kernel)) da_nil rfl) rfl) da_nil rfl) rfl)) (fun X1 g1 => (gc_name g1 (i := 1) (by decide +kernel))) (fun X1 g1 => (ds_one (g_plain g1 (g_call g1 (i := 7) (n := 3) (by decide +kernel) (ga_cons (g_slot g1 (i := 0) (by decide +kernel)) (ga_cons (g_ix g1 (g_slot g1 (i := 1) (by decide +kernel)) de_int (fun _ _ => rfl)) (ga_cons (g_ix g1 (g_slot g1 (i := 1) (by decide +kernel)) de_int (fun _ _ => rfl)) da_nil rfl) rfl) rfl) rfl) (fun _ _ => rfl)))) (fun X1 g1 => (g_slot g1 (i := 1) (by decide +kernel))) (fun _ _ => rfl)) da_nil rfl) rfl)) ds_nilS)
theorem b10 (g : Good tx (Gk w K mg base) k sem csem ["row", "person", "left", "other", "right"] (defScope s10) (fun _ => true) X) : PSs X (defBody s10) (tS (Gk w K mg base).B (f10 sem csem)) :=
  (ds_cons (g_setLc g (i := 2) (by decide +kernel) (ow := [("other", 3)]) (by decide +kernel) (gi_rng1 g (by decide +kernel) (ga_cons (g_slot g (i := 1) (by decide +kernel)) da_nil rfl) rfl) (fun X1 g1 => (gc_name g1 (i := 3) (by decide +kernel))) (fun X1 g1 => (ds_one (g_gt g1 (g_ix g1 (g_slot g1 (i := 0) (by decide +kernel)) (g_slot g1 (i := 3) (by decide +kernel)) (fun _ _ => rfl)) (g_ix g1 (g_slot g1 (i := 0) (by decide +kernel)) (g_slot g1 (i := 1) (by decide +kernel)) (fun _ _ => rfl)) rfl).2)) (fun X1 g1 => (g_slot g1 (i := 3) (by decide +kernel))) (fun _ _ => rfl)) (ds_cons (g_setLc g (i := 4) (by decide +kernel) (ow := [("other", 3)]) (by decide +kernel) (gi_rng2 g (by decide +kernel) (ga_cons (g_add g (g_slot g (i := 1) (by decide +kernel)) de_int) (ga_cons (g_len g (by decide +kernel) (ga_cons (g_slot g (i := 0) (by decide +kernel)) da_nil rfl) rfl) da_nil rfl) rfl) rfl rfl) (fun X1 g1 => (gc_name g1 (i := 3) (by decide +kernel))) (fun X1 g1 => (ds_one (g_gt g1 (g_ix g1 (g_slot g1 (i := 0) (by decide +kernel)) (g_slot g1 (i := 3) (by decide +kernel)) (fun _ _ => rfl)) (g_ix g1 (g_slot g1 (i := 0) (by decide +kernel)) (g_slot g1 (i := 1) (by decide +kernel)) (fun _ _ => rfl)) rfl).2)) (fun X1 g1 => (g_slot g1 (i := 3) (by decide +kernel))) (fun _ _ => rfl)) (ds_cons (ds_ret (de_tup (ga_cons (g_slice g (g_slot g (i := 2) (by decide +kernel)) (do_some (g_neg g de_int)) do_none) (ga_cons (g_slice g (g_slot g (i := 4) (by decide +kernel)) do_none (do_some de_int)) da_nil rfl) rfl))) ds_nilS)))
theorem b11 (T : TabH K mg base) (hcode : X.env.code = .ref (cd1 K)) (hq : X.env.qual = Str.ofString "next_up_of" ++ ".<locals>.") (g : Good tx (Gk w K mg base) k sem csem ["row", "person", "left", "right"] (defScope s11) (fun _ => true) X) : PSs X (defBody s11) (tS (Gk w K mg base).B (f11 sem csem)) :=
  (ds_cons (g_asg (g_call g (i := 10) (n := 2) (by decide +kernel) (ga_cons (g_slot g (i := 0) (by decide +kernel)) (ga_cons (g_slot g (i := 1) (by decide +kernel)) da_nil rfl) rfl) rfl) (g_tupT g (dgs_cons (g_name g (i := 2) (by decide +kernel)) (dgs_cons (g_name g (i := 3) (by decide +kernel)) dgs_nil rfl) rfl) rfl) (fun _ _ => rfl) (fun _ => rfl) rfl) (ds_cons (ds_ret (g_slice g (g_sortK g (nm := nml0) (x := "other") (kx := (KX.ix (KX.cap 0) KX.par)) T.tl0 hcode hq (by simp [Gk, tabsK]) (by decide +kernel) (hul0 T) (by decide +kernel) (g_add g (g_slot g (i := 2) (by decide +kernel)) (g_slot g (i := 3) (by decide +kernel))) rfl (fun _ => rfl) (by decide +kernel)) do_none (do_some de_int))) ds_nilS))
theorem b12 (g : Good tx (Gk w K mg base) k sem csem ["value", "low", "high"] (defScope s12) (fun _ => true) X) : PSs X (defBody s12) (tS (Gk w K mg base).B (f12 sem csem)) :=
  (ds_cons (ds_if (dt_not (g_plain g (g_call g (i := 1) (n := 3) (by decide +kernel) (ga_cons (g_slot g (i := 0) (by decide +kernel)) (ga_cons (g_slot g (i := 1) (by decide +kernel)) (ga_cons (g_slot g (i := 2) (by decide +kernel)) da_nil rfl) rfl) rfl) rfl) (fun _ _ => rfl))) (ds_cons ds_bad ds_nilS) ds_nilS) ds_nilS)
theorem b13 (g : Good tx (Gk w K mg base) k sem csem ["value"] (defScope s13) (fun _ => true) X) : PSs X (defBody s13) (tS (Gk w K mg base).B (f13 sem csem)) :=
  (ds_cons (ds_expr (g_call g (i := 12) (n := 3) (by decide +kernel) (ga_cons (g_slot g (i := 0) (by decide +kernel)) (ga_cons de_int (ga_cons de_non da_nil rfl) rfl) rfl) rfl) rfl) ds_nilS)
theorem b14 (g : Good tx (Gk w K mg base) k sem csem ["value", "at"] (defScope s14) (fun _ => true) X) : PSs X (defBody s14) (tS (Gk w K mg base).B (f14 sem csem)) :=
  (ds_cons (g_for g (gi_seq g (g_call g (i := 5) (n := 1) (by decide +kernel) (ga_cons (g_slot g (i := 0) (by decide +kernel)) da_nil rfl) rfl)) (g_name g (i := 1) (by decide +kernel)) (ds_cons ds_bad ds_nilS) (fun _ _ => rfl)) ds_nilS)
theorem b15 (g : Good tx (Gk w K mg base) k sem csem ["many", "value"] (defScope s15) (fun _ => true) X) : PSs X (defBody s15) (tS (Gk w K mg base).B (f15 sem csem)) :=
  (ds_cons (ds_expr (g_call g (i := 13) (n := 1) (by decide +kernel) (ga_cons (g_slot g (i := 1) (by decide +kernel)) da_nil rfl) rfl) rfl) (ds_cons (ds_if (g_ge g (g_slot g (i := 1) (by decide +kernel)) (g_slot g (i := 0) (by decide +kernel)) rfl).2 (ds_cons ds_bad ds_nilS) ds_nilS) ds_nilS))
theorem b16 (g : Good tx (Gk w K mg base) k sem csem ["row", "person"] (defScope s16) (fun _ => true) X) : PSs X (defBody s16) (tS (Gk w K mg base).B (f16 sem csem)) :=
  (ds_cons (ds_expr (g_call g (i := 14) (n := 1) (by decide +kernel) (ga_cons (g_slot g (i := 0) (by decide +kernel)) da_nil rfl) rfl) rfl) (ds_cons (ds_expr (g_call g (i := 15) (n := 2) (by decide +kernel) (ga_cons (g_len g (by decide +kernel) (ga_cons (g_slot g (i := 0) (by decide +kernel)) da_nil rfl) rfl) (ga_cons (g_slot g (i := 1) (by decide +kernel)) da_nil rfl) rfl) rfl) rfl) ds_nilS))
theorem b17 (g : Good tx (Gk w K mg base) k sem csem ["row", "person", "found"] (defScope s17) (fun _ => true) X) : PSs X (defBody s17) (tS (Gk w K mg base).B (f17 sem csem)) :=
  (ds_cons (g_asg (de_new (ga_cons (g_slot g (i := 1) (by decide +kernel)) da_nil rfl)) (g_name g (i := 2) (by decide +kernel)) (fun _ _ => rfl) (fun _ => rfl) rfl) (ds_cons (g_while g fuel (g_ne g (g_call g (i := 11) (n := 2) (by decide +kernel) (ga_cons (g_slot g (i := 0) (by decide +kernel)) (ga_cons (g_ix g (g_slot g (i := 2) (by decide +kernel)) (g_neg g de_int) (fun _ _ => rfl)) da_nil rfl) rfl) rfl) (de_lst da_nil) rfl).2 (ds_cons (ds_expr (de_append (g_slot g (i := 2) (by decide +kernel)) (g_ix g (g_call g (i := 11) (n := 2) (by decide +kernel) (ga_cons (g_slot g (i := 0) (by decide +kernel)) (ga_cons (g_ix g (g_slot g (i := 2) (by decide +kernel)) (g_neg g de_int) (fun _ _ => rfl)) da_nil rfl) rfl) rfl) de_int (fun _ _ => rfl)) rfl rfl rfl) rfl) ds_nilS)) (ds_cons (ds_ret (g_tuple g (by decide +kernel) (ga_cons (g_slot g (i := 2) (by decide +kernel)) da_nil rfl) rfl)) ds_nilS)))
theorem b18 (g : Good tx (Gk w K mg base) k sem csem ["row", "person"] (defScope s18) (fun _ => true) X) : PSs X (defBody s18) (tS (Gk w K mg base).B (f18 sem csem)) :=
  (ds_cons (ds_expr (g_call g (i := 16) (n := 2) (by decide +kernel) (ga_cons (g_slot g (i := 0) (by decide +kernel)) (ga_cons (g_slot g (i := 1) (by decide +kernel)) da_nil rfl) rfl) rfl) rfl) (ds_cons (ds_ret (g_ix g (de_lst (ga_star g (g_call g (i := 11) (n := 2) (by decide +kernel) (ga_cons (g_slot g (i := 0) (by decide +kernel)) (ga_cons (g_slot g (i := 1) (by decide +kernel)) da_nil rfl) rfl) rfl) (ga_cons de_non da_nil rfl))) de_int (fun _ _ => rfl))) ds_nilS))
theorem b19 (g : Good tx (Gk w K mg base) k sem csem ["row", "person"] (defScope s19) (fun _ => true) X) : PSs X (defBody s19) (tS (Gk w K mg base).B (f19 sem csem)) :=
  (ds_cons (ds_expr (g_call g (i := 16) (n := 2) (by decide +kernel) (ga_cons (g_slot g (i := 0) (by decide +kernel)) (ga_cons (g_slot g (i := 1) (by decide +kernel)) da_nil rfl) rfl) rfl) rfl) (ds_cons (ds_ret (g_call g (i := 17) (n := 2) (by decide +kernel) (ga_cons (g_slot g (i := 0) (by decide +kernel)) (ga_cons (g_slot g (i := 1) (by decide +kernel)) da_nil rfl) rfl) rfl)) ds_nilS))
theorem b20 (g : Good tx (Gk w K mg base) k sem csem ["row", "person"] (defScope s20) (fun _ => true) X) : PSs X (defBody s20) (tS (Gk w K mg base).B (f20 sem csem)) :=
  (ds_cons (ds_expr (g_call g (i := 14) (n := 1) (by decide +kernel) (ga_cons (g_slot g (i := 0) (by decide +kernel)) da_nil rfl) rfl) rfl) (ds_cons (ds_ret (g_tuple g (by decide +kernel) (ga_cons (g_comp g (ow := [("person", 1)]) (by decide +kernel) (gi_rng1 g (by decide +kernel) (ga_cons (g_len g (by decide +kernel) (ga_cons (g_slot g (i := 0) (by decide +kernel)) da_nil rfl) rfl) da_nil rfl) rfl) (fun X1 g1 => (gc_name g1 (i := 1) (by decide +kernel))) (fun X1 g1 => ds_nil) (fun X1 g1 => (g_sub g1 (g_len g1 (by decide +kernel) (ga_cons (g_call g1 (i := 17) (n := 2) (by decide +kernel) (ga_cons (g_slot g1 (i := 0) (by decide +kernel)) (ga_cons (g_slot g1 (i := 1) (by decide +kernel)) da_nil rfl) rfl) rfl) da_nil rfl) rfl) de_int)) (fun _ _ => rfl)) da_nil rfl) rfl)) ds_nilS))
theorem b21 (g : Good tx (Gk w K mg base) k sem csem ["row", "pairs", "_", "two", "person"] (defScope s21) (fun _ => true) X) : PSs X (defBody s21) (tS (Gk w K mg base).B (f21 sem csem)) :=
  (ds_cons (g_asg (g_call g (i := 9) (n := 1) (by decide +kernel) (ga_cons (g_slot g (i := 0) (by decide +kernel)) da_nil rfl) rfl) (g_name g (i := 1) (by decide +kernel)) (fun _ _ => rfl) (fun _ => rfl) rfl) (ds_cons (ds_ret (g_tuple g (by decide +kernel) (ga_cons (g_comp g (ow := [("person", 4)]) (by decide +kernel) (gi_rng1 g (by decide +kernel) (ga_cons (g_len g (by decide +kernel) (ga_cons (g_slot g (i := 0) (by decide +kernel)) da_nil rfl) rfl) da_nil rfl) rfl) (fun X1 g1 => (gc_name g1 (i := 4) (by decide +kernel))) (fun X1 g1 => ds_nil) (fun X1 g1 => (g_len g1 (by decide +kernel) (ga_cons (g_comp g1 (ow := [("_", 2), ("two", 3)]) (by decide +kernel) (gi_seq g1 (g_slot g1 (i := 1) (by decide +kernel))) (fun X2 g2 => (gc_tup g2 (dcs_cons (gc_name g2 (i := 2) (by decide +kernel)) (dcs_cons (gc_name g2 (i := 3) (by decide +kernel)) dcs_nil rfl) rfl) rfl)) (fun X2 g2 => (ds_one (g_eq g2 (g_slot g2 (i := 3) (by decide +kernel)) (g_slot g2 (i := 4) (by decide +kernel)) rfl).2)) (fun X2 g2 => de_int) (fun _ _ => rfl)) da_nil rfl) rfl)) (fun _ _ => rfl)) da_nil rfl) rfl)) ds_nilS))
theorem b22 (g : Good tx (Gk w K mg base) k sem csem ["row", "pairs", "one", "_", "person"] (defScope s22) (fun _ => true) X) : PSs X (defBody s22) (tS (Gk w K mg base).B (f22 sem csem)) :=
  (ds_cons (g_asg (g_call g (i := 9) (n := 1) (by decide +kernel) (ga_cons (g_slot g (i := 0) (by decide +kernel)) da_nil rfl) rfl) (g_name g (i := 1) (by decide +kernel)) (fun _ _ => rfl) (fun _ => rfl) rfl) (ds_cons (ds_ret (g_tuple g (by decide +kernel) (ga_cons (g_comp g (ow := [("person", 4)]) (by decide +kernel) (gi_rng1 g (by decide +kernel) (ga_cons (g_len g (by decide +kernel) (ga_cons (g_slot g (i := 0) (by decide +kernel)) da_nil rfl) rfl) da_nil rfl) rfl) (fun X1 g1 => (gc_name g1 (i := 4) (by decide +kernel))) (fun X1 g1 => ds_nil) (fun X1 g1 => (g_len g1 (by decide +kernel) (ga_cons (g_comp g1 (ow := [("one", 2), ("_", 3)]) (by decide +kernel) (gi_seq g1 (g_slot g1 (i := 1) (by decide +kernel))) (fun X2 g2 => (gc_tup g2 (dcs_cons (gc_name g2 (i := 2) (by decide +kernel)) (dcs_cons (gc_name g2 (i := 3) (by decide +kernel)) dcs_nil rfl) rfl) rfl)) (fun X2 g2 => (ds_one (g_eq g2 (g_slot g2 (i := 2) (by decide +kernel)) (g_slot g2 (i := 4) (by decide +kernel)) rfl).2)) (fun X2 g2 => de_int) (fun _ _ => rfl)) da_nil rfl) rfl)) (fun _ _ => rfl)) da_nil rfl) rfl)) ds_nilS))
theorem b23 (g : Good tx (Gk w K mg base) k sem csem ["row"] (defScope s23) (fun _ => true) X) : PSs X (defBody s23) (tS (Gk w K mg base).B (f23 sem csem)) :=
  (ds_cons (ds_expr (g_call g (i := 14) (n := 1) (by decide +kernel) (ga_cons (g_slot g (i := 0) (by decide +kernel)) da_nil rfl) rfl) rfl) (ds_cons (ds_ret (g_call g (i := 21) (n := 1) (by decide +kernel) (ga_cons (g_slot g (i := 0) (by decide +kernel)) da_nil rfl) rfl)) ds_nilS))
theorem b24 (g : Good tx (Gk w K mg base) k sem csem ["row"] (defScope s24) (fun _ => true) X) : PSs X (defBody s24) (tS (Gk w K mg base).B (f24 sem csem)) :=
  (ds_cons (ds_expr (g_call g (i := 14) (n := 1) (by decide +kernel) (ga_cons (g_slot g (i := 0) (by decide +kernel)) da_nil rfl) rfl) rfl) (ds_cons (ds_ret (g_call g (i := 22) (n := 1) (by decide +kernel) (ga_cons (g_slot g (i := 0) (by decide +kernel)) da_nil rfl) rfl)) ds_nilS))
theorem b25 (g : Good tx (Gk w K mg base) k sem csem ["row", "person", "other"] (defScope s25) (fun _ => true) X) : PSs X (defBody s25) (tS (Gk w K mg base).B (f25 sem csem)) :=
  (ds_cons (ds_expr (g_call g (i := 16) (n := 2) (by decide +kernel) (ga_cons (g_slot g (i := 0) (by decide +kernel)) (ga_cons (g_slot g (i := 1) (by decide +kernel)) da_nil rfl) rfl) rfl) rfl) (ds_cons (ds_ret (g_tuple g (by decide +kernel) (ga_cons (g_comp g (ow := [("other", 2)]) (by decide +kernel) (gi_rng1 g (by decide +kernel) (ga_cons (g_slot g (i := 1) (by decide +kernel)) da_nil rfl) rfl) (fun X1 g1 => (gc_name g1 (i := 2) (by decide +kernel))) (fun X1 g1 => (ds_one (g_plain g1 (g_call g1 (i := 7) (n := 3) (by decide +kernel) (ga_cons (g_slot g1 (i := 0) (by decide +kernel)) (ga_cons (g_slot g1 (i := 2) (by decide +kernel)) (ga_cons (g_slot g1 (i := 1) (by decide +kernel)) da_nil rfl) rfl) rfl) rfl) (fun _ _ => rfl)))) (fun X1 g1 => (g_slot g1 (i := 2) (by decide +kernel))) (fun _ _ => rfl)) da_nil rfl) rfl)) ds_nilS))
theorem b26 (g : Good tx (Gk w K mg base) k sem csem ["script", "lap", "stirred", "cell", "own"] (defScope s26) (fun _ => true) X) : PSs X (defBody s26) (tS (Gk w K mg base).B (f26 sem csem)) :=
  (ds_cons (g_asg (g_add g de_int (g_mul g de_int (g_slot g (i := 1) (by decide +kernel)))) (g_name g (i := 2) (by decide +kernel)) (fun _ _ => rfl) (fun _ => rfl) rfl) (ds_cons (g_for g (gi_seq g (g_slice g (g_slot g (i := 0) (by decide +kernel)) do_none (do_some de_int))) (g_name g (i := 3) (by decide +kernel)) (ds_cons (g_asg (g_mod g (g_int1 g (by decide +kernel) (ga_cons (g_add g (g_add g (g_mul g (g_slot g (i := 2) (by decide +kernel)) de_int) (g_mod g (g_int1 g (by decide +kernel) (ga_cons (g_slot g (i := 3) (by decide +kernel)) da_nil rfl) rfl) de_int)) de_int) da_nil rfl) rfl) de_int) (g_name g (i := 2) (by decide +kernel)) (fun _ _ => rfl) (fun _ => rfl) rfl) ds_nilS) (fun _ _ => rfl)) (ds_cons (g_asg (de_ite (g_lt g (g_slot g (i := 1) (by decide +kernel)) (g_len g (by decide +kernel) (ga_cons (g_slot g (i := 0) (by decide +kernel)) da_nil rfl) rfl) rfl).2 (g_int1 g (by decide +kernel) (ga_cons (g_ix g (g_slot g (i := 0) (by decide +kernel)) (g_slot g (i := 1) (by decide +kernel)) (fun _ _ => rfl)) da_nil rfl) rfl) de_int) (g_name g (i := 4) (by decide +kernel)) (fun _ _ => rfl) (fun _ => rfl) rfl) (ds_cons (g_asg (g_mod g (g_int1 g (by decide +kernel) (ga_cons (g_add g (g_add g (g_mul g (g_slot g (i := 2) (by decide +kernel)) de_int) (g_mul g (g_mod g (g_int1 g (by decide +kernel) (ga_cons (g_slot g (i := 4) (by decide +kernel)) da_nil rfl) rfl) de_int) de_int)) de_int) da_nil rfl) rfl) de_int) (g_name g (i := 2) (by decide +kernel)) (fun _ _ => rfl) (fun _ => rfl) rfl) (ds_cons (ds_ret (de_new (ga_cons (de_ite (dt_pw (dw_or (g_lt g (g_slot g (i := 4) (by decide +kernel)) de_int rfl).2 (dw_one .Or (g_ge g (g_slot g (i := 4) (by decide +kernel)) (g_pow g de_int de_int) rfl).2))) (g_abs g (by decide +kernel) (ga_cons (g_slot g (i := 4) (by decide +kernel)) da_nil rfl) rfl) de_int) (ga_cons (g_slot g (i := 2) (by decide +kernel)) (ga_cons de_int da_nil rfl) rfl) rfl))) ds_nilS)))))
theorem b27 (g : Good tx (Gk w K mg base) k sem csem ["well", "limit", "digit", "stir"] (defScope s27) (fun _ => true) X) : PSs X (defBody s27) (tS (Gk w K mg base).B (f27 sem csem)) :=
  (ds_cons (ds_if (g_gt g (g_ix g (g_slot g (i := 0) (by decide +kernel)) de_int (fun _ _ => rfl)) de_int rfl).2 (ds_cons (g_asg (g_divmod g (by decide +kernel) (ga_cons (g_ix g (g_slot g (i := 0) (by decide +kernel)) de_int (fun _ _ => rfl)) (ga_cons (g_slot g (i := 1) (by decide +kernel)) da_nil rfl) rfl) rfl) (g_tupT g (dgs_cons (dg_sub (g_slot g (i := 0) (by decide +kernel)) de_int (fun _ => rfl)) (dgs_cons (g_name g (i := 2) (by decide +kernel)) dgs_nil rfl) rfl) rfl) (fun _ _ => rfl) (fun _ => rfl) rfl) (ds_cons (ds_ret (g_slot g (i := 2) (by decide +kernel))) ds_nilS)) ds_nilS) (ds_cons (g_asg (g_add g (g_ix g (g_slot g (i := 0) (by decide +kernel)) de_int (fun _ _ => rfl)) de_int) (dg_sub (g_slot g (i := 0) (by decide +kernel)) de_int (fun _ => rfl)) (fun _ _ => rfl) (fun _ => rfl) rfl) (ds_cons (g_asg (g_mod g (g_int1 g (by decide +kernel) (ga_cons (g_add g (g_add g (g_mul g (g_ix g (g_slot g (i := 0) (by decide +kernel)) de_int (fun _ _ => rfl)) de_int) (g_mul g de_int (g_ix g (g_slot g (i := 0) (by decide +kernel)) de_int (fun _ _ => rfl)))) de_int) da_nil rfl) rfl) de_int) (g_name g (i := 3) (by decide +kernel)) (fun _ _ => rfl) (fun _ => rfl) rfl) (ds_cons (g_asg (g_mod g (g_int1 g (by decide +kernel) (ga_cons (g_add g (g_mul g (g_slot g (i := 3) (by decide +kernel)) (g_add g (g_mod g (g_int1 g (by decide +kernel) (ga_cons (g_slot g (i := 3) (by decide +kernel)) da_nil rfl) rfl) de_int) de_int)) (g_ix g (g_slot g (i := 0) (by decide +kernel)) de_int (fun _ _ => rfl))) da_nil rfl) rfl) de_int) (dg_sub (g_slot g (i := 0) (by decide +kernel)) de_int (fun _ => rfl)) (fun _ _ => rfl) (fun _ => rfl) rfl) (ds_cons (ds_ret (g_mod g (g_int1 g (by decide +kernel) (ga_cons (g_div g (g_ix g (g_slot g (i := 0) (by decide +kernel)) de_int (fun _ _ => rfl)) de_int) da_nil rfl) rfl) (g_slot g (i := 1) (by decide +kernel)))) ds_nilS)))))
theorem b28 (g : Good tx (Gk w K mg base) k sem csem ["well", "some"] (defScope s28) (fun _ => true) X) : PSs X (defBody s28) (tS (Gk w K mg base).B (f28 sem csem)) :=
  (ds_cons (ds_ret (g_ix g (g_slot g (i := 1) (by decide +kernel)) (g_call g (i := 27) (n := 2) (by decide +kernel) (ga_cons (g_slot g (i := 0) (by decide +kernel)) (ga_cons (g_len g (by decide +kernel) (ga_cons (g_slot g (i := 1) (by decide +kernel)) da_nil rfl) rfl) da_nil rfl) rfl) rfl) (fun _ _ => rfl))) ds_nilS)
theorem b29 (g : Good tx (Gk w K mg base) k sem csem ["one", "two", "k"] (defScope s29) (fun _ => true) X) : PSs X (defBody s29) (tS (Gk w K mg base).B (f29 sem csem)) :=
  (ds_cons (ds_if (dt_pw (dw_and (g_plain g (g_isi g (T := "tuple") (by decide) (by decide +kernel) (by decide +kernel) (g_slot g (i := 0) (by decide +kernel)) rfl) (fun _ _ => rfl)) (dw_one .And (g_plain g (g_isi g (T := "tuple") (by decide) (by decide +kernel) (by decide +kernel) (g_slot g (i := 1) (by decide +kernel)) rfl) (fun _ _ => rfl))))) (ds_cons (ds_ret (g_and g (g_eq g (g_len g (by decide +kernel) (ga_cons (g_slot g (i := 0) (by decide +kernel)) da_nil rfl) rfl) (g_len g (by decide +kernel) (ga_cons (g_slot g (i := 1) (by decide +kernel)) da_nil rfl) rfl) rfl).1 (de_one (g_all g (by decide +kernel) (ga_cons (g_comp g (ow := [("k", 2)]) (by decide +kernel) (gi_rng1 g (by decide +kernel) (ga_cons (g_len g (by decide +kernel) (ga_cons (g_slot g (i := 0) (by decide +kernel)) da_nil rfl) rfl) da_nil rfl) rfl) (fun X1 g1 => (gc_name g1 (i := 2) (by decide +kernel))) (fun X1 g1 => ds_nil) (fun X1 g1 => (g_call g1 (i := 29) (n := 2) (by decide +kernel) (ga_cons (g_ix g1 (g_slot g1 (i := 0) (by decide +kernel)) (g_slot g1 (i := 2) (by decide +kernel)) (fun _ _ => rfl)) (ga_cons (g_ix g1 (g_slot g1 (i := 1) (by decide +kernel)) (g_slot g1 (i := 2) (by decide +kernel)) (fun _ _ => rfl)) da_nil rfl) rfl) rfl)) (fun _ _ => rfl)) da_nil rfl) rfl)))) ds_nilS) ds_nilS) (ds_cons (ds_if (dt_pw (dw_or (g_ne g (g_isi g (T := "bool") (by decide) (by decide +kernel) (by decide +kernel) (g_slot g (i := 0) (by decide +kernel)) rfl) (g_isi g (T := "bool") (by decide) (by decide +kernel) (by decide +kernel) (g_slot g (i := 1) (by decide +kernel)) rfl) rfl).2 (dw_one .Or (g_ne g (g_isi g (T := "int") (by decide) (by decide +kernel) (by decide +kernel) (g_slot g (i := 0) (by decide +kernel)) rfl) (g_isi g (T := "int") (by decide) (by decide +kernel) (by decide +kernel) (g_slot g (i := 1) (by decide +kernel)) rfl) rfl).2))) (ds_cons (ds_ret de_bl) ds_nilS) ds_nilS) (ds_cons (ds_ret (g_and g (g_eq g (g_isi g (T := "tuple") (by decide) (by decide +kernel) (by decide +kernel) (g_slot g (i := 0) (by decide +kernel)) rfl) (g_isi g (T := "tuple") (by decide) (by decide +kernel) (by decide +kernel) (g_slot g (i := 1) (by decide +kernel)) rfl) rfl).1 (de_one (g_eq g (g_slot g (i := 0) (by decide +kernel)) (g_slot g (i := 1) (by decide +kernel)) rfl).1))) ds_nilS)))
theorem b30 (g : Good tx (Gk w K mg base) k sem csem ["well", "least", "most", "many", "top", "found", "k", "height", "lap"] (defScope s30) (fun _ => true) X) : PSs X (defBody s30) (tS (Gk w K mg base).B (f30 sem csem)) :=
  (ds_cons (g_par3 g (i := 3) (j := 4) (l := 5) (by decide +kernel) (ga_cons (g_add g (g_slot g (i := 1) (by decide +kernel)) (g_call g (i := 27) (n := 2) (by decide +kernel) (ga_cons (g_slot g (i := 0) (by decide +kernel)) (ga_cons (g_add g (g_sub g (g_slot g (i := 2) (by decide +kernel)) (g_slot g (i := 1) (by decide +kernel))) de_int) da_nil rfl) rfl) rfl)) (ga_cons (g_call g (i := 28) (n := 2) (by decide +kernel) (ga_cons (g_slot g (i := 0) (by decide +kernel)) (ga_cons (de_tup (ga_cons de_int (ga_cons de_int (ga_cons de_int (ga_cons de_int da_nil rfl) rfl) rfl) rfl)) da_nil rfl) rfl) rfl) (ga_cons (de_tup da_nil) da_nil rfl) rfl) rfl) (by kernel_rfl)) (ds_cons (g_for g (gi_rng1 g (by decide +kernel) (ga_cons (g_slot g (i := 3) (by decide +kernel)) da_nil rfl) rfl) (g_name g (i := 6) (by decide +kernel)) (ds_cons (g_asg (g_call g (i := 27) (n := 2) (by decide +kernel) (ga_cons (g_slot g (i := 0) (by decide +kernel)) (ga_cons (g_slot g (i := 4) (by decide +kernel)) da_nil rfl) rfl) rfl) (g_name g (i := 7) (by decide +kernel)) (fun _ _ => rfl) (fun _ => rfl) rfl) (ds_cons (g_for g (gi_rng1 g (by decide +kernel) (ga_cons de_int da_nil rfl) rfl) (g_name g (i := 8) (by decide +kernel)) (ds_cons (g_asg (de_ite (g_nin g (g_slot g (i := 7) (by decide +kernel)) (g_slot g (i := 5) (by decide +kernel)) rfl).2 (g_slot g (i := 7) (by decide +kernel)) (g_int1 g (by decide +kernel) (ga_cons (g_mod g (g_add g (g_slot g (i := 7) (by decide +kernel)) de_int) (g_slot g (i := 4) (by decide +kernel))) da_nil rfl) rfl)) (g_name g (i := 7) (by decide +kernel)) (fun _ _ => rfl) (fun _ => rfl) rfl) ds_nilS) (fun _ _ => rfl)) (ds_cons (g_asg (g_add g (g_slot g (i := 5) (by decide +kernel)) (de_tup (ga_cons (g_slot g (i := 7) (by decide +kernel)) da_nil rfl))) (g_name g (i := 5) (by decide +kernel)) (fun _ _ => rfl) (fun _ => rfl) rfl) ds_nilS))) (fun _ _ => rfl)) (ds_cons (ds_ret (g_slot g (i := 5) (by decide +kernel))) ds_nilS)))
theorem b31 (g : Good tx (Gk w K mg base) k sem csem ["row", "one", "two", "low", "k"] (defScope s31) (fun _ => true) X) : PSs X (defBody s31) (tS (Gk w K mg base).B (f31 sem csem)) :=
  (ds_cons (g_asg (g_min g (by decide +kernel) (ga_cons (g_ix g (g_slot g (i := 0) (by decide +kernel)) (g_slot g (i := 1) (by decide +kernel)) (fun _ _ => rfl)) (ga_cons (g_ix g (g_slot g (i := 0) (by decide +kernel)) (g_slot g (i := 2) (by decide +kernel)) (fun _ _ => rfl)) da_nil rfl) rfl) rfl) (g_name g (i := 3) (by decide +kernel)) (fun _ _ => rfl) (fun _ => rfl) rfl) (ds_cons (ds_ret (g_tuple g (by decide +kernel) (ga_cons (g_comp g (ow := [("k", 4)]) (by decide +kernel) (gi_rng2 g (by decide +kernel) (ga_cons (g_add g (g_min g (by decide +kernel) (ga_cons (g_slot g (i := 1) (by decide +kernel)) (ga_cons (g_slot g (i := 2) (by decide +kernel)) da_nil rfl) rfl) rfl) de_int) (ga_cons (g_max g (by decide +kernel) (ga_cons (g_slot g (i := 1) (by decide +kernel)) (ga_cons (g_slot g (i := 2) (by decide +kernel)) da_nil rfl) rfl) rfl) da_nil rfl) rfl) rfl rfl) (fun X1 g1 => (gc_name g1 (i := 4) (by decide +kernel))) (fun X1 g1 => (ds_one (g_gt g1 (g_ix g1 (g_slot g1 (i := 0) (by decide +kernel)) (g_slot g1 (i := 4) (by decide +kernel)) (fun _ _ => rfl)) (g_slot g1 (i := 3) (by decide +kernel)) rfl).2)) (fun X1 g1 => (g_slot g1 (i := 4) (by decide +kernel))) (fun _ _ => rfl)) da_nil rfl) rfl)) ds_nilS))
theorem b32 (g : Good tx (Gk w K mg base) k sem csem ["row", "person", "k"] (defScope s32) (fun _ => true) X) : PSs X (defBody s32) (tS (Gk w K mg base).B (f32 sem csem)) :=
  (ds_cons (ds_ret (g_tuple g (by decide +kernel) (ga_cons (g_comp g (ow := [("k", 2)]) (by decide +kernel) (gi_rng1 g (by decide +kernel) (ga_cons (g_len g (by decide +kernel) (ga_cons (g_slot g (i := 0) (by decide +kernel)) da_nil rfl) rfl) da_nil rfl) rfl) (fun X1 g1 => (gc_name g1 (i := 2) (by decide +kernel))) (fun X1 g1 => (ds_one (dt_pw (dw_and (g_ne g1 (g_slot g1 (i := 2) (by decide +kernel)) (g_slot g1 (i := 1) (by decide +kernel)) rfl).2 (dw_one .And (g_eq g1 (g_call g1 (i := 31) (n := 3) (by decide +kernel) (ga_cons (g_slot g1 (i := 0) (by decide +kernel)) (ga_cons (g_slot g1 (i := 1) (by decide +kernel)) (ga_cons (g_slot g1 (i := 2) (by decide +kernel)) da_nil rfl) rfl) rfl) rfl) (de_tup da_nil) rfl).2))))) (fun X1 g1 => (g_slot g1 (i := 2) (by decide +kernel))) (fun _ _ => rfl)) da_nil rfl) rfl)) ds_nilS)
theorem b33 (g : Good tx (Gk w K mg base) k sem csem ["row", "person", "left", "k", "right"] (defScope s33) (fun _ => true) X) : PSs X (defBody s33) (tS (Gk w K mg base).B (f33 sem csem)) :=
  (ds_cons (g_setLc g (i := 2) (by decide +kernel) (ow := [("k", 3)]) (by decide +kernel) (gi_rng1 g (by decide +kernel) (ga_cons (g_slot g (i := 1) (by decide +kernel)) da_nil rfl) rfl) (fun X1 g1 => (gc_name g1 (i := 3) (by decide +kernel))) (fun X1 g1 => (ds_one (g_gt g1 (g_ix g1 (g_slot g1 (i := 0) (by decide +kernel)) (g_slot g1 (i := 3) (by decide +kernel)) (fun _ _ => rfl)) (g_ix g1 (g_slot g1 (i := 0) (by decide +kernel)) (g_slot g1 (i := 1) (by decide +kernel)) (fun _ _ => rfl)) rfl).2)) (fun X1 g1 => (g_slot g1 (i := 3) (by decide +kernel))) (fun _ _ => rfl)) (ds_cons (g_setLc g (i := 4) (by decide +kernel) (ow := [("k", 3)]) (by decide +kernel) (gi_rng2 g (by decide +kernel) (ga_cons (g_add g (g_slot g (i := 1) (by decide +kernel)) de_int) (ga_cons (g_len g (by decide +kernel) (ga_cons (g_slot g (i := 0) (by decide +kernel)) da_nil rfl) rfl) da_nil rfl) rfl) rfl rfl) (fun X1 g1 => (gc_name g1 (i := 3) (by decide +kernel))) (fun X1 g1 => (ds_one (g_gt g1 (g_ix g1 (g_slot g1 (i := 0) (by decide +kernel)) (g_slot g1 (i := 3) (by decide +kernel)) (fun _ _ => rfl)) (g_ix g1 (g_slot g1 (i := 0) (by decide +kernel)) (g_slot g1 (i := 1) (by decide +kernel)) (fun _ _ => rfl)) rfl).2)) (fun X1 g1 => (g_slot g1 (i := 3) (by decide +kernel))) (fun _ _ => rfl)) (ds_cons (ds_ret (de_tup (ga_cons (de_ite (g_ne g (g_slot g (i := 2) (by decide +kernel)) (de_lst da_nil) rfl).2 (g_ix g (g_slot g (i := 2) (by decide +kernel)) (g_neg g de_int) (fun _ _ => rfl)) de_non) (ga_cons (de_ite (g_ne g (g_slot g (i := 4) (by decide +kernel)) (de_lst da_nil) rfl).2 (g_ix g (g_slot g (i := 4) (by decide +kernel)) de_int (fun _ _ => rfl)) de_non) da_nil rfl) rfl))) ds_nilS)))
theorem b34 (g : Good tx (Gk w K mg base) k sem csem ["row", "person", "some", "k"] (defScope s34) (fun _ => true) X) : PSs X (defBody s34) (tS (Gk w K mg base).B (f34 sem csem)) :=
  (ds_cons (g_setLc g (i := 2) (by decide +kernel) (ow := [("k", 3)]) (by decide +kernel) (gi_seq g (g_call g (i := 33) (n := 2) (by decide +kernel) (ga_cons (g_slot g (i := 0) (by decide +kernel)) (ga_cons (g_slot g (i := 1) (by decide +kernel)) da_nil rfl) rfl) rfl)) (fun X1 g1 => (gc_name g1 (i := 3) (by decide +kernel))) (fun X1 g1 => (ds_one (g_isnot g1 (g_slot g1 (i := 3) (by decide +kernel)) de_non rfl).2)) (fun X1 g1 => (g_slot g1 (i := 3) (by decide +kernel))) (fun _ _ => rfl)) (ds_cons (ds_ret (de_ite (g_ne g (g_slot g (i := 2) (by decide +kernel)) (de_lst da_nil) rfl).2 (g_ix g (g_min g (by decide +kernel) (ga_cons (g_comp g (ow := [("k", 3)]) (by decide +kernel) (gi_seq g (g_slot g (i := 2) (by decide +kernel))) (fun X1 g1 => (gc_name g1 (i := 3) (by decide +kernel))) (fun X1 g1 => ds_nil) (fun X1 g1 => (de_tup (ga_cons (g_ix g1 (g_slot g1 (i := 0) (by decide +kernel)) (g_slot g1 (i := 3) (by decide +kernel)) (fun _ _ => rfl)) (ga_cons (g_slot g1 (i := 3) (by decide +kernel)) da_nil rfl) rfl))) (fun _ _ => rfl)) da_nil rfl) rfl) de_int (fun _ _ => rfl)) de_non)) ds_nilS))
theorem b35 (g : Good tx (Gk w K mg base) k sem csem ["row", "person", "found", "lap", "up"] (defScope s35) (fun _ => true) X) : PSs X (defBody s35) (tS (Gk w K mg base).B (f35 sem csem)) :=
  (ds_cons (g_asg (de_tup (ga_cons (g_slot g (i := 1) (by decide +kernel)) da_nil rfl)) (g_name g (i := 2) (by decide +kernel)) (fun _ _ => rfl) (fun _ => rfl) rfl) (ds_cons (g_for g (gi_rng1 g (by decide +kernel) (ga_cons (g_len g (by decide +kernel) (ga_cons (g_slot g (i := 0) (by decide +kernel)) da_nil rfl) rfl) da_nil rfl) rfl) (g_name g (i := 3) (by decide +kernel)) (ds_cons (g_asg (g_call g (i := 34) (n := 2) (by decide +kernel) (ga_cons (g_slot g (i := 0) (by decide +kernel)) (ga_cons (g_ix g (g_slot g (i := 2) (by decide +kernel)) (g_neg g de_int) (fun _ _ => rfl)) da_nil rfl) rfl) rfl) (g_name g (i := 4) (by decide +kernel)) (fun _ _ => rfl) (fun _ => rfl) rfl) (ds_cons (g_asg (g_add g (g_slot g (i := 2) (by decide +kernel)) (de_ite (g_isnot g (g_slot g (i := 4) (by decide +kernel)) de_non rfl).2 (de_tup (ga_cons (g_slot g (i := 4) (by decide +kernel)) da_nil rfl)) (de_tup da_nil))) (g_name g (i := 2) (by decide +kernel)) (fun _ _ => rfl) (fun _ => rfl) rfl) ds_nilS)) (fun _ _ => rfl)) (ds_cons (ds_ret (g_slot g (i := 2) (by decide +kernel))) ds_nilS)))
theorem b36 (g : Good tx (Gk w K mg base) k sem csem ["well", "row", "lefts", "k", "person", "looks", "lot", "others", "most", "told", "up", "way", "due"] (defScope s36) (fun _ => true) X) : PSs X (defBody s36) (tS (Gk w K mg base).B (f36 sem csem)) :=
  (ds_cons (g_asg (g_call g (i := 30) (n := 3) (by decide +kernel) (ga_cons (g_slot g (i := 0) (by decide +kernel)) (ga_cons de_int (ga_cons de_int da_nil rfl) rfl) rfl) rfl) (g_name g (i := 1) (by decide +kernel)) (fun _ _ => rfl) (fun _ => rfl) rfl) (ds_cons (g_setLc g (i := 2) (by decide +kernel) (ow := [("person", 4)]) (by decide +kernel) (gi_rng1 g (by decide +kernel) (ga_cons (g_len g (by decide +kernel) (ga_cons (g_slot g (i := 1) (by decide +kernel)) da_nil rfl) rfl) da_nil rfl) rfl) (fun X1 g1 => (gc_name g1 (i := 4) (by decide +kernel))) (fun X1 g1 => ds_nil) (fun X1 g1 => (g_tuple g1 (by decide +kernel) (ga_cons (g_comp g1 (ow := [("k", 3)]) (by decide +kernel) (gi_seq g1 (g_call g1 (i := 32) (n := 2) (by decide +kernel) (ga_cons (g_slot g1 (i := 1) (by decide +kernel)) (ga_cons (g_slot g1 (i := 4) (by decide +kernel)) da_nil rfl) rfl) rfl)) (fun X2 g2 => (gc_name g2 (i := 3) (by decide +kernel))) (fun X2 g2 => (ds_one (g_lt g2 (g_slot g2 (i := 3) (by decide +kernel)) (g_slot g2 (i := 4) (by decide +kernel)) rfl).2)) (fun X2 g2 => (g_slot g2 (i := 3) (by decide +kernel))) (fun _ _ => rfl)) da_nil rfl) rfl)) (fun _ _ => rfl)) (ds_cons (g_asg (g_tuple g (by decide +kernel) (ga_cons (g_comp g (ow := [("lot", 6)]) (by decide +kernel) (gi_seq g (g_slot g (i := 2) (by decide +kernel))) (fun X1 g1 => (gc_name g1 (i := 6) (by decide +kernel))) (fun X1 g1 => ds_nil) (fun X1 g1 => (g_len g1 (by decide +kernel) (ga_cons (g_slot g1 (i := 6) (by decide +kernel)) da_nil rfl) rfl)) (fun _ _ => rfl)) da_nil rfl) rfl) (g_name g (i := 5) (by decide +kernel)) (fun _ _ => rfl) (fun _ => rfl) rfl) (ds_cons (g_asg (g_tuple g (by decide +kernel) (ga_cons (g_comp g (ow := [("person", 4)]) (by decide +kernel) (gi_rng1 g (by decide +kernel) (ga_cons (g_len g (by decide +kernel) (ga_cons (g_slot g (i := 1) (by decide +kernel)) da_nil rfl) rfl) da_nil rfl) rfl) (fun X1 g1 => (gc_name g1 (i := 4) (by decide +kernel))) (fun X1 g1 => ds_nil) (fun X1 g1 => (g_len g1 (by decide +kernel) (ga_cons (g_comp g1 (ow := [("k", 3)]) (by decide +kernel) (gi_seq g1 (g_call g1 (i := 32) (n := 2) (by decide +kernel) (ga_cons (g_slot g1 (i := 1) (by decide +kernel)) (ga_cons (g_slot g1 (i := 4) (by decide +kernel)) da_nil rfl) rfl) rfl)) (fun X2 g2 => (gc_name g2 (i := 3) (by decide +kernel))) (fun X2 g2 => (ds_one (g_gt g2 (g_slot g2 (i := 3) (by decide +kernel)) (g_slot g2 (i := 4) (by decide +kernel)) rfl).2)) (fun X2 g2 => (g_slot g2 (i := 3) (by decide +kernel))) (fun _ _ => rfl)) da_nil rfl) rfl)) (fun _ _ => rfl)) da_nil rfl) rfl) (g_name g (i := 7) (by decide +kernel)) (fun _ _ => rfl) (fun _ => rfl) rfl) (ds_cons (ds_if (dt_not (g_plain g (g_call g (i := 29) (n := 2) (by decide +kernel) (ga_cons (de_tup (ga_cons (g_call g (i := 23) (n := 1) (by decide +kernel) (ga_cons (g_slot g (i := 1) (by decide +kernel)) da_nil rfl) rfl) (ga_cons (g_callK0 g (i := 23) (n := 1) (pm := [0]) (by decide +kernel) (kw_cons (g_slot g (i := 1) (by decide +kernel)) kw_nil) (by decide +kernel) (lenL_cons lenL_nil)) da_nil rfl) rfl)) (ga_cons (de_tup (ga_cons (g_slot g (i := 5) (by decide +kernel)) (ga_cons (g_slot g (i := 5) (by decide +kernel)) da_nil rfl) rfl)) da_nil rfl) rfl) rfl) (fun _ _ => rfl))) (ds_cons (ds_ret de_bl) ds_nilS) ds_nilS) (ds_cons (ds_if (dt_not (g_plain g (g_call g (i := 29) (n := 2) (by decide +kernel) (ga_cons (de_tup (ga_cons (g_call g (i := 24) (n := 1) (by decide +kernel) (ga_cons (g_slot g (i := 1) (by decide +kernel)) da_nil rfl) rfl) (ga_cons (g_callK0 g (i := 24) (n := 1) (pm := [0]) (by decide +kernel) (kw_cons (g_slot g (i := 1) (by decide +kernel)) kw_nil) (by decide +kernel) (lenL_cons lenL_nil)) da_nil rfl) rfl)) (ga_cons (de_tup (ga_cons (g_slot g (i := 7) (by decide +kernel)) (ga_cons (g_slot g (i := 7) (by decide +kernel)) da_nil rfl) rfl)) da_nil rfl) rfl) rfl) (fun _ _ => rfl))) (ds_cons (ds_ret de_bl) ds_nilS) ds_nilS) (ds_cons (g_asg de_int (g_name g (i := 8) (by decide +kernel)) (fun _ _ => rfl) (fun _ => rfl) rfl) (ds_cons (g_for g (gi_rng1 g (by decide +kernel) (ga_cons (g_len g (by decide +kernel) (ga_cons (g_slot g (i := 1) (by decide +kernel)) da_nil rfl) rfl) da_nil rfl) rfl) (g_name g (i := 4) (by decide +kernel)) (ds_cons (ds_if (dt_pw (dw_or (g_gt g (g_ix g (g_slot g (i := 5) (by decide +kernel)) (g_slot g (i := 4) (by decide +kernel)) (fun _ _ => rfl)) (de_ite (g_gt g (g_slot g (i := 4) (by decide +kernel)) de_int rfl).2 (g_slot g (i := 8) (by decide +kernel)) de_int) rfl).2 (dw_one .Or (dt_pw (dw_and (g_gt g (g_slot g (i := 4) (by decide +kernel)) de_int rfl).2 (dw_one .And (g_lt g (g_ix g (g_slot g (i := 5) (by decide +kernel)) (g_slot g (i := 4) (by decide +kernel)) (fun _ _ => rfl)) de_int rfl).2)))))) (ds_cons (ds_ret de_bl) ds_nilS) ds_nilS) (ds_cons (g_asg (de_ite (g_gt g (g_slot g (i := 4) (by decide +kernel)) de_int rfl).2 (g_add g (g_sub g (g_slot g (i := 8) (by decide +kernel)) (g_ix g (g_slot g (i := 5) (by decide +kernel)) (g_slot g (i := 4) (by decide +kernel)) (fun _ _ => rfl))) de_int) de_int) (g_name g (i := 8) (by decide +kernel)) (fun _ _ => rfl) (fun _ => rfl) rfl) (ds_cons (g_asg (de_tup (ga_cons (g_call g (i := 25) (n := 2) (by decide +kernel) (ga_cons (g_slot g (i := 1) (by decide +kernel)) (ga_cons (g_slot g (i := 4) (by decide +kernel)) da_nil rfl) rfl) rfl) (ga_cons (g_callK g (i := 25) (n := 2) (pm := [0, 1]) (by decide +kernel) (ga_cons (g_slot g (i := 1) (by decide +kernel)) da_nil rfl) (kw_cons (g_slot g (i := 4) (by decide +kernel)) kw_nil) rfl (by decide +kernel) (lenL_cons lenL_nil) (lenL_cons lenL_nil)) da_nil rfl) rfl)) (g_name g (i := 9) (by decide +kernel)) (fun _ _ => rfl) (fun _ => rfl) rfl) (ds_cons (ds_if (dt_not (g_plain g (g_call g (i := 29) (n := 2) (by decide +kernel) (ga_cons (g_slot g (i := 9) (by decide +kernel)) (ga_cons (de_tup (ga_cons (g_ix g (g_slot g (i := 2) (by decide +kernel)) (g_slot g (i := 4) (by decide +kernel)) (fun _ _ => rfl)) (ga_cons (g_ix g (g_slot g (i := 2) (by decide +kernel)) (g_slot g (i := 4) (by decide +kernel)) (fun _ _ => rfl)) da_nil rfl) rfl)) da_nil rfl) rfl) rfl) (fun _ _ => rfl))) (ds_cons (ds_ret de_bl) ds_nilS) ds_nilS) (ds_cons (g_par2 g (i := 10) (j := 11) (by decide +kernel) (ga_cons (g_call g (i := 34) (n := 2) (by decide +kernel) (ga_cons (g_slot g (i := 1) (by decide +kernel)) (ga_cons (g_slot g (i := 4) (by decide +kernel)) da_nil rfl) rfl) rfl) (ga_cons (g_call g (i := 35) (n := 2) (by decide +kernel) (ga_cons (g_slot g (i := 1) (by decide +kernel)) (ga_cons (g_slot g (i := 4) (by decide +kernel)) da_nil rfl) rfl) rfl) da_nil rfl) rfl) (by kernel_rfl)) (ds_cons (ds_if (dt_not (g_plain g (g_call g (i := 29) (n := 2) (by decide +kernel) (ga_cons (de_tup (ga_cons (g_call g (i := 18) (n := 2) (by decide +kernel) (ga_cons (g_slot g (i := 1) (by decide +kernel)) (ga_cons (g_slot g (i := 4) (by decide +kernel)) da_nil rfl) rfl) rfl) (ga_cons (g_callK g (i := 18) (n := 2) (pm := [0, 1]) (by decide +kernel) (ga_cons (g_slot g (i := 1) (by decide +kernel)) da_nil rfl) (kw_cons (g_slot g (i := 4) (by decide +kernel)) kw_nil) rfl (by decide +kernel) (lenL_cons lenL_nil) (lenL_cons lenL_nil)) da_nil rfl) rfl)) (ga_cons (de_tup (ga_cons (g_slot g (i := 10) (by decide +kernel)) (ga_cons (g_slot g (i := 10) (by decide +kernel)) da_nil rfl) rfl)) da_nil rfl) rfl) rfl) (fun _ _ => rfl))) (ds_cons (ds_ret de_bl) ds_nilS) ds_nilS) (ds_cons (ds_if (dt_not (g_plain g (g_call g (i := 29) (n := 2) (by decide +kernel) (ga_cons (de_tup (ga_cons (g_call g (i := 19) (n := 2) (by decide +kernel) (ga_cons (g_slot g (i := 1) (by decide +kernel)) (ga_cons (g_slot g (i := 4) (by decide +kernel)) da_nil rfl) rfl) rfl) (ga_cons (g_callK g (i := 19) (n := 2) (pm := [0, 1]) (by decide +kernel) (ga_cons (g_slot g (i := 1) (by decide +kernel)) da_nil rfl) (kw_cons (g_slot g (i := 4) (by decide +kernel)) kw_nil) rfl (by decide +kernel) (lenL_cons lenL_nil) (lenL_cons lenL_nil)) da_nil rfl) rfl)) (ga_cons (de_tup (ga_cons (g_slot g (i := 11) (by decide +kernel)) (ga_cons (g_slot g (i := 11) (by decide +kernel)) da_nil rfl) rfl)) da_nil rfl) rfl) rfl) (fun _ _ => rfl))) (ds_cons (ds_ret de_bl) ds_nilS) ds_nilS) ds_nilS))))))) (fun _ _ => rfl)) (ds_cons (g_asg (g_tuple g (by decide +kernel) (ga_cons (g_comp g (ow := [("person", 4)]) (by decide +kernel) (gi_rng1 g (by decide +kernel) (ga_cons (g_len g (by decide +kernel) (ga_cons (g_slot g (i := 1) (by decide +kernel)) da_nil rfl) rfl) da_nil rfl) rfl) (fun X1 g1 => (gc_name g1 (i := 4) (by decide +kernel))) (fun X1 g1 => ds_nil) (fun X1 g1 => (g_sub g1 (g_len g1 (by decide +kernel) (ga_cons (g_call g1 (i := 35) (n := 2) (by decide +kernel) (ga_cons (g_slot g1 (i := 1) (by decide +kernel)) (ga_cons (g_slot g1 (i := 4) (by decide +kernel)) da_nil rfl) rfl) rfl) da_nil rfl) rfl) de_int)) (fun _ _ => rfl)) da_nil rfl) rfl) (g_name g (i := 12) (by decide +kernel)) (fun _ _ => rfl) (fun _ => rfl) rfl) (ds_cons (ds_ret (g_call g (i := 29) (n := 2) (by decide +kernel) (ga_cons (de_tup (ga_cons (g_call g (i := 20) (n := 1) (by decide +kernel) (ga_cons (g_slot g (i := 1) (by decide +kernel)) da_nil rfl) rfl) (ga_cons (g_callK0 g (i := 20) (n := 1) (pm := [0]) (by decide +kernel) (kw_cons (g_slot g (i := 1) (by decide +kernel)) kw_nil) (by decide +kernel) (lenL_cons lenL_nil)) da_nil rfl) rfl)) (ga_cons (de_tup (ga_cons (g_slot g (i := 12) (by decide +kernel)) (ga_cons (g_slot g (i := 12) (by decide +kernel)) da_nil rfl) rfl)) da_nil rfl) rfl) rfl)) ds_nilS))))))))))
theorem b37 (g : Good tx (Gk w K mg base) k sem csem ["script", "wells", "lap", "k"] (defScope s37) (fun _ => true) X) : PSs X (defBody s37) (tS (Gk w K mg base).B (f37 sem csem)) :=
  (ds_cons (g_asgC g (by decide +kernel) (g_comp g (ow := [("lap", 2)]) (by decide +kernel) (gi_rng1 g (by decide +kernel) (ga_cons de_int da_nil rfl) rfl) (fun X1 g1 => (gc_name g1 (i := 2) (by decide +kernel))) (fun X1 g1 => ds_nil) (fun X1 g1 => (g_call g1 (i := 26) (n := 2) (by decide +kernel) (ga_cons (g_slot g1 (i := 0) (by decide +kernel)) (ga_cons (g_slot g1 (i := 2) (by decide +kernel)) da_nil rfl) rfl) rfl)) (fun _ _ => rfl)) (g_name g (i := 1) (by decide +kernel))) (ds_cons (ds_ret (g_all g (by decide +kernel) (ga_cons (g_comp g (ow := [("k", 3)]) (by decide +kernel) (gi_rng1 g (by decide +kernel) (ga_cons de_int da_nil rfl) rfl) (fun X1 g1 => (gc_name g1 (i := 3) (by decide +kernel))) (fun X1 g1 => ds_nil) (fun X1 g1 => (g_call g1 (i := 36) (n := 1) (by decide +kernel) (ga_cons (g_ix g1 (g_slot g1 (i := 1) (by decide +kernel)) (g_mod g1 (g_int1 g1 (by decide +kernel) (ga_cons (g_slot g1 (i := 3) (by decide +kernel)) da_nil rfl) rfl) de_int) (fun _ _ => rfl)) da_nil rfl) rfl)) (fun _ _ => rfl)) da_nil rfl) rfl)) ds_nilS))
theorem e0 (g : Good tx (Gk w K mg base) k sem csem ["each", "before"] (C8.fnScope n0) (fun _ => false) X) : PSs X (C8.fnBody n0) (tS (Gk w K mg base).B (c0 sem csem)) :=
  (ds_cons (ds_ret (g_and g (g_lt g (g_len g (by decide +kernel) (ga_cons (g_slot g (i := 1) (by decide +kernel)) da_nil rfl) rfl) (g_globI g (v := 12) (by decide +kernel)) rfl).1 (g_and g (g_call g (i := 4) (n := 1) (by decide +kernel) (ga_cons (g_slot g (i := 0) (by decide +kernel)) da_nil rfl) rfl) (de_one (g_nin g (g_slot g (i := 0) (by decide +kernel)) (g_slot g (i := 1) (by decide +kernel)) rfl).1)))) ds_nilS)
end
def fb : FB := fun i sem csem => match i with
  | 0 => runS 1 (f0 sem csem)
  | 1 => runS 3 (f1 sem csem)
  | 2 => runS 4 (f2 sem csem)
  | 3 => runS 2 (f3 sem csem)
  | 4 => runS 1 (f4 sem csem)
  | 5 => runS 2 (f5 sem csem)
  | 6 => runS 5 (f6 sem csem)
  | 7 => runS 3 (f7 sem csem)
  | 8 => runS 3 (f8 sem csem)
  | 9 => runS 2 (f9 sem csem)
  | 10 => runS 5 (f10 sem csem)
  | 11 => runS 4 (f11 sem csem)
  | 12 => runS 3 (f12 sem csem)
  | 13 => runS 1 (f13 sem csem)
  | 14 => runS 2 (f14 sem csem)
  | 15 => runS 2 (f15 sem csem)
  | 16 => runS 2 (f16 sem csem)
  | 17 => runS 3 (f17 sem csem)
  | 18 => runS 2 (f18 sem csem)
  | 19 => runS 2 (f19 sem csem)
  | 20 => runS 2 (f20 sem csem)
  | 21 => runS 5 (f21 sem csem)
  | 22 => runS 5 (f22 sem csem)
  | 23 => runS 1 (f23 sem csem)
  | 24 => runS 1 (f24 sem csem)
  | 25 => runS 3 (f25 sem csem)
  | 26 => runS 5 (f26 sem csem)
  | 27 => runS 4 (f27 sem csem)
  | 28 => runS 2 (f28 sem csem)
  | 29 => runS 3 (f29 sem csem)
  | 30 => runS 9 (f30 sem csem)
  | 31 => runS 5 (f31 sem csem)
  | 32 => runS 3 (f32 sem csem)
  | 33 => runS 5 (f33 sem csem)
  | 34 => runS 4 (f34 sem csem)
  | 35 => runS 5 (f35 sem csem)
  | 36 => runS 13 (f36 sem csem)
  | 37 => runS 4 (f37 sem csem)
  | _ => fun _ _ => .bad
def cb : FB := fun j sem csem => match j with
  | 0 => runS 2 (c0 sem csem)
  | _ => fun _ _ => .bad
def D0 : He.DefD := ⟨("is_whole", none), "is_whole", "is_whole", defArgs s0, defBody s0, defScope s0, [], []⟩
def D1 : He.DefD := ⟨("is_number", none), "is_number", "is_number", defArgs s1, defBody s1, defScope s1, [], []⟩
def D2 : He.DefD := ⟨("wrong_at", none), "wrong_at", "wrong_at", defArgs s2, defBody s2, defScope s2, [], []⟩
def D3 : He.DefD := ⟨("wrong_or_none", none), "wrong_or_none", "wrong_or_none", defArgs s3, defBody s3, defScope s3, [], []⟩
def D4 : He.DefD := ⟨("is_height", none), "is_height", "is_height", defArgs s4, defBody s4, defScope s4, [], []⟩
def D5 : He.DefD := ⟨("wrong_row", none), "wrong_row", "wrong_row", defArgs s5, defBody s5, defScope s5, [], []⟩
def D6 : He.DefD := ⟨("bars_between", none), "bars_between", "bars_between", defArgs s6, defBody s6, defScope s6, [], []⟩
def D7 : He.DefD := ⟨("do_see_in", none), "do_see_in", "do_see_in", defArgs s7, defBody s7, defScope s7, [], []⟩
def D8 : He.DefD := ⟨("pairs_of_all", none), "pairs_of_all", "pairs_of_all", defArgs s8, defBody s8, defScope s8, [], []⟩
def D9 : He.DefD := ⟨("sights_of", none), "sights_of", "sights_of", defArgs s9, defBody s9, defScope s9, [], []⟩
def D10 : He.DefD := ⟨("taller_beside", none), "taller_beside", "taller_beside", defArgs s10, defBody s10, defScope s10, [], []⟩
def D11 : He.DefD := ⟨("next_up_of", none), "next_up_of", "next_up_of", defArgs s11, defBody s11, defScope s11, [], []⟩
def D12 : He.DefD := ⟨("check_number", none), "check_number", "check_number", defArgs s12, defBody s12, defScope s12, [], []⟩
def D13 : He.DefD := ⟨("check_any_number", none), "check_any_number", "check_any_number", defArgs s13, defBody s13, defScope s13, [], []⟩
def D14 : He.DefD := ⟨("check_row", none), "check_row", "check_row", defArgs s14, defBody s14, defScope s14, [], []⟩
def D15 : He.DefD := ⟨("check_person_of", none), "check_person_of", "check_person_of", defArgs s15, defBody s15, defScope s15, [], []⟩
def D16 : He.DefD := ⟨("check_person", none), "check_person", "check_person", defArgs s16, defBody s16, defScope s16, [], []⟩
def D17 : He.DefD := ⟨("climb_of", none), "climb_of", "climb_of", defArgs s17, defBody s17, defScope s17, [], []⟩
def D18 : He.DefD := ⟨("next_up", none), "next_up", "next_up", defArgs s18, defBody s18, defScope s18, [], []⟩
def D19 : He.DefD := ⟨("climb", none), "climb", "climb", defArgs s19, defBody s19, defScope s19, [], []⟩
def D20 : He.DefD := ⟨("depths", none), "depths", "depths", defArgs s20, defBody s20, defScope s20, [], []⟩
def D21 : He.DefD := ⟨("looks_to_left", none), "looks_to_left", "looks_to_left", defArgs s21, defBody s21, defScope s21, [], []⟩
def D22 : He.DefD := ⟨("looks_to_right", none), "looks_to_right", "looks_to_right", defArgs s22, defBody s22, defScope s22, [], []⟩
def D23 : He.DefD := ⟨("looks_left", none), "looks_left", "looks_left", defArgs s23, defBody s23, defScope s23, [], []⟩
def D24 : He.DefD := ⟨("looks_right", none), "looks_right", "looks_right", defArgs s24, defBody s24, defScope s24, [], []⟩
def D25 : He.DefD := ⟨("seen_left", none), "seen_left", "seen_left", defArgs s25, defBody s25, defScope s25, [], []⟩
def D26 : He.DefD := ⟨("_law_well", none), "_law_well", "_law_well", defArgs s26, defBody s26, defScope s26, [], []⟩
def D27 : He.DefD := ⟨("_law_draw", none), "_law_draw", "_law_draw", defArgs s27, defBody s27, defScope s27, [], []⟩
def D28 : He.DefD := ⟨("_law_of", none), "_law_of", "_law_of", defArgs s28, defBody s28, defScope s28, [], []⟩
def D29 : He.DefD := ⟨("_law_same", none), "_law_same", "_law_same", defArgs s29, defBody s29, defScope s29, [], []⟩
def D30 : He.DefD := ⟨("_law_row", none), "_law_row", "_law_row", defArgs s30, defBody s30, defScope s30, [], []⟩
def D31 : He.DefD := ⟨("_law_bars", none), "_law_bars", "_law_bars", defArgs s31, defBody s31, defScope s31, [], []⟩
def D32 : He.DefD := ⟨("_law_seen", none), "_law_seen", "_law_seen", defArgs s32, defBody s32, defScope s32, [], []⟩
def D33 : He.DefD := ⟨("_law_covers", none), "_law_covers", "_law_covers", defArgs s33, defBody s33, defScope s33, [], []⟩
def D34 : He.DefD := ⟨("_law_up", none), "_law_up", "_law_up", defArgs s34, defBody s34, defScope s34, [], []⟩
def D35 : He.DefD := ⟨("_law_climb", none), "_law_climb", "_law_climb", defArgs s35, defBody s35, defScope s35, [], []⟩
def D36 : He.DefD := ⟨("_law_right", none), "_law_right", "_law_right", defArgs s36, defBody s36, defScope s36, [], []⟩
def D37 : He.DefD := ⟨("law", none), "law", "law", defArgs s37, defBody s37, defScope s37, [], []⟩
def fn : List He.DefD := [D0, D1, D2, D3, D4, D5, D6, D7, D8, D9, D10, D11, D12, D13, D14, D15, D16, D17, D18, D19, D20, D21, D22, D23, D24, D25, D26, D27, D28, D29, D30, D31, D32, D33, D34, D35, D36, D37]
def fa : List He.Fa := [.glo "is_whole", .glo "is_number", .glo "wrong_at", .glo "wrong_or_none", .glo "is_height", .glo "wrong_row", .glo "bars_between", .glo "do_see_in", .glo "pairs_of_all", .glo "sights_of", .glo "taller_beside", .glo "next_up_of", .glo "check_number", .glo "check_any_number", .glo "check_row", .glo "check_person_of", .glo "check_person", .glo "climb_of", .glo "next_up", .glo "climb", .glo "depths", .glo "looks_to_left", .glo "looks_to_right", .glo "looks_left", .glo "looks_right", .glo "seen_left", .glo "_law_well", .glo "_law_draw", .glo "_law_of", .glo "_law_same", .glo "_law_row", .glo "_law_bars", .glo "_law_seen", .glo "_law_covers", .glo "_law_up", .glo "_law_climb", .glo "_law_right", .glo "law", .free "abs", .free "all", .free "bool", .free "divmod", .free "enumerate", .free "int", .free "isinstance", .free "len", .free "max", .free "min", .free "range", .free "sorted", .free "tuple", .int "MOST_HEIGHT" 999, .int "MOST_PERSONS" 12]
theorem impl {w : World} {K : PySem.W.Frag} {h base : Heap} {mg : Str → Option Value} (X : K.In h) (G : h.Ns mainGlobals mg) (c : He.SaysD fa fn K) (T : TabH K mg base) : Impl tx (Gk w K mg base) fb cb := by
  refine ⟨?_, ?_, ?_, ?_⟩
  · intro x hx
    simp only [tx, List.mem_cons, List.not_mem_nil, or_false] at hx
    rcases hx with rfl | rfl | rfl | rfl | rfl | rfl | rfl | rfl | rfl | rfl | rfl | rfl | rfl
    · exact He.free_ok X G (c.facts (f := .free "abs") (by simp [fa]))
    · exact He.free_ok X G (c.facts (f := .free "all") (by simp [fa]))
    · exact He.free_ok X G (c.facts (f := .free "bool") (by simp [fa]))
    · exact He.free_ok X G (c.facts (f := .free "divmod") (by simp [fa]))
    · exact He.free_ok X G (c.facts (f := .free "enumerate") (by simp [fa]))
    · exact He.free_ok X G (c.facts (f := .free "int") (by simp [fa]))
    · exact He.free_ok X G (c.facts (f := .free "isinstance") (by simp [fa]))
    · exact He.free_ok X G (c.facts (f := .free "len") (by simp [fa]))
    · exact He.free_ok X G (c.facts (f := .free "max") (by simp [fa]))
    · exact He.free_ok X G (c.facts (f := .free "min") (by simp [fa]))
    · exact He.free_ok X G (c.facts (f := .free "range") (by simp [fa]))
    · exact He.free_ok X G (c.facts (f := .free "sorted") (by simp [fa]))
    · exact He.free_ok X G (c.facts (f := .free "tuple") (by simp [fa]))
  · intro x hx
    simp only [tx, List.mem_cons, List.not_mem_nil, or_false] at hx
    rcases hx with rfl | rfl
    · exact He.int_ok X G (c.facts (f := .int "MOST_HEIGHT" 999) (by simp [fa]))
    · exact He.int_ok X G (c.facts (f := .int "MOST_PERSONS" 12) (by simp [fa]))
  · intro i inf hi
    match i, hi with
    | 0, hi =>
      have hi : (some (⟨"is_whole", ["value"]⟩ : Inf)) = some inf := hi
      cases hi
      obtain ⟨fd, F⟩ := c.def_ 0 (d := D0) rfl
      exact impl_fn (N := ["value"]) (p := ("is_whole", none)) (fb := f0) rfl F (He.glo_ok X G (c.fact 0 (f := .glo "is_whole") rfl)) (by decide +kernel) (fun k sem csem X g hcode hq => b0 g)
    | 1, hi =>
      have hi : (some (⟨"is_number", ["value", "low", "high"]⟩ : Inf)) = some inf := hi
      cases hi
      obtain ⟨fd, F⟩ := c.def_ 1 (d := D1) rfl
      exact impl_fn (N := ["value", "low", "high"]) (p := ("is_number", none)) (fb := f1) rfl F (He.glo_ok X G (c.fact 1 (f := .glo "is_number") rfl)) (by decide +kernel) (fun k sem csem X g hcode hq => b1 g)
    | 2, hi =>
      have hi : (some (⟨"wrong_at", ["value", "is_right"]⟩ : Inf)) = some inf := hi
      cases hi
      obtain ⟨fd, F⟩ := c.def_ 2 (d := D2) rfl
      exact impl_fn (N := ["value", "is_right", "at", "each"]) (p := ("wrong_at", none)) (fb := f2) rfl F (He.glo_ok X G (c.fact 2 (f := .glo "wrong_at") rfl)) (by decide +kernel) (fun k sem csem X g hcode hq => b2 g)
    | 3, hi =>
      have hi : (some (⟨"wrong_or_none", ["value", "is_right"]⟩ : Inf)) = some inf := hi
      cases hi
      obtain ⟨fd, F⟩ := c.def_ 3 (d := D3) rfl
      exact impl_fn (N := ["value", "is_right"]) (p := ("wrong_or_none", none)) (fb := f3) rfl F (He.glo_ok X G (c.fact 3 (f := .glo "wrong_or_none") rfl)) (by decide +kernel) (fun k sem csem X g hcode hq => b3 g)
    | 4, hi =>
      have hi : (some (⟨"is_height", ["value"]⟩ : Inf)) = some inf := hi
      cases hi
      obtain ⟨fd, F⟩ := c.def_ 4 (d := D4) rfl
      exact impl_fn (N := ["value"]) (p := ("is_height", none)) (fb := f4) rfl F (He.glo_ok X G (c.fact 4 (f := .glo "is_height") rfl)) (by decide +kernel) (fun k sem csem X g hcode hq => b4 g)
    | 5, hi =>
      have hi : (some (⟨"wrong_row", ["value"]⟩ : Inf)) = some inf := hi
      cases hi
      obtain ⟨fd, F⟩ := c.def_ 5 (d := D5) rfl
      exact impl_fn (N := ["value", "is_right"]) (p := ("wrong_row", none)) (fb := f5) rfl F (He.glo_ok X G (c.fact 5 (f := .glo "wrong_row") rfl)) (by decide +kernel) (fun k sem csem X g hcode hq => b5 T hcode hq g)
    | 6, hi =>
      have hi : (some (⟨"bars_between", ["row", "one", "two"]⟩ : Inf)) = some inf := hi
      cases hi
      obtain ⟨fd, F⟩ := c.def_ 6 (d := D6) rfl
      exact impl_fn (N := ["row", "one", "two", "lower", "person"]) (p := ("bars_between", none)) (fb := f6) rfl F (He.glo_ok X G (c.fact 6 (f := .glo "bars_between") rfl)) (by decide +kernel) (fun k sem csem X g hcode hq => b6 g)
    | 7, hi =>
      have hi : (some (⟨"do_see_in", ["row", "one", "two"]⟩ : Inf)) = some inf := hi
      cases hi
      obtain ⟨fd, F⟩ := c.def_ 7 (d := D7) rfl
      exact impl_fn (N := ["row", "one", "two"]) (p := ("do_see_in", none)) (fb := f7) rfl F (He.glo_ok X G (c.fact 7 (f := .glo "do_see_in") rfl)) (by decide +kernel) (fun k sem csem X g hcode hq => b7 g)
    | 8, hi =>
      have hi : (some (⟨"pairs_of_all", ["many"]⟩ : Inf)) = some inf := hi
      cases hi
      obtain ⟨fd, F⟩ := c.def_ 8 (d := D8) rfl
      exact impl_fn (N := ["many", "one", "two"]) (p := ("pairs_of_all", none)) (fb := f8) rfl F (He.glo_ok X G (c.fact 8 (f := .glo "pairs_of_all") rfl)) (by decide +kernel) (fun k sem csem X g hcode hq => b8 g)
    | 9, hi =>
      have hi : (some (⟨"sights_of", ["row"]⟩ : Inf)) = some inf := hi
      cases hi
      obtain ⟨fd, F⟩ := c.def_ 9 (d := D9) rfl
      exact impl_fn (N := ["row", "pair"]) (p := ("sights_of", none)) (fb := f9) rfl F (He.glo_ok X G (c.fact 9 (f := .glo "sights_of") rfl)) (by decide +kernel) (fun k sem csem X g hcode hq => b9 g)
    | 10, hi =>
      have hi : (some (⟨"taller_beside", ["row", "person"]⟩ : Inf)) = some inf := hi
      cases hi
      obtain ⟨fd, F⟩ := c.def_ 10 (d := D10) rfl
      exact impl_fn (N := ["row", "person", "left", "other", "right"]) (p := ("taller_beside", none)) (fb := f10) rfl F (He.glo_ok X G (c.fact 10 (f := .glo "taller_beside") rfl)) (by decide +kernel) (fun k sem csem X g hcode hq => b10 g)
    | 11, hi =>
      have hi : (some (⟨"next_up_of", ["row", "person"]⟩ : Inf)) = some inf := hi
      cases hi
      obtain ⟨fd, F⟩ := c.def_ 11 (d := D11) rfl
      exact impl_fn (N := ["row", "person", "left", "right"]) (p := ("next_up_of", none)) (fb := f11) rfl F (He.glo_ok X G (c.fact 11 (f := .glo "next_up_of") rfl)) (by decide +kernel) (fun k sem csem X g hcode hq => b11 T hcode hq g)
    | 12, hi =>
      have hi : (some (⟨"check_number", ["value", "low", "high"]⟩ : Inf)) = some inf := hi
      cases hi
      obtain ⟨fd, F⟩ := c.def_ 12 (d := D12) rfl
      exact impl_fn (N := ["value", "low", "high"]) (p := ("check_number", none)) (fb := f12) rfl F (He.glo_ok X G (c.fact 12 (f := .glo "check_number") rfl)) (by decide +kernel) (fun k sem csem X g hcode hq => b12 g)
    | 13, hi =>
      have hi : (some (⟨"check_any_number", ["value"]⟩ : Inf)) = some inf := hi
      cases hi
      obtain ⟨fd, F⟩ := c.def_ 13 (d := D13) rfl
      exact impl_fn (N := ["value"]) (p := ("check_any_number", none)) (fb := f13) rfl F (He.glo_ok X G (c.fact 13 (f := .glo "check_any_number") rfl)) (by decide +kernel) (fun k sem csem X g hcode hq => b13 g)
    | 14, hi =>
      have hi : (some (⟨"check_row", ["value"]⟩ : Inf)) = some inf := hi
      cases hi
      obtain ⟨fd, F⟩ := c.def_ 14 (d := D14) rfl
      exact impl_fn (N := ["value", "at"]) (p := ("check_row", none)) (fb := f14) rfl F (He.glo_ok X G (c.fact 14 (f := .glo "check_row") rfl)) (by decide +kernel) (fun k sem csem X g hcode hq => b14 g)
    | 15, hi =>
      have hi : (some (⟨"check_person_of", ["many", "value"]⟩ : Inf)) = some inf := hi
      cases hi
      obtain ⟨fd, F⟩ := c.def_ 15 (d := D15) rfl
      exact impl_fn (N := ["many", "value"]) (p := ("check_person_of", none)) (fb := f15) rfl F (He.glo_ok X G (c.fact 15 (f := .glo "check_person_of") rfl)) (by decide +kernel) (fun k sem csem X g hcode hq => b15 g)
    | 16, hi =>
      have hi : (some (⟨"check_person", ["row", "person"]⟩ : Inf)) = some inf := hi
      cases hi
      obtain ⟨fd, F⟩ := c.def_ 16 (d := D16) rfl
      exact impl_fn (N := ["row", "person"]) (p := ("check_person", none)) (fb := f16) rfl F (He.glo_ok X G (c.fact 16 (f := .glo "check_person") rfl)) (by decide +kernel) (fun k sem csem X g hcode hq => b16 g)
    | 17, hi =>
      have hi : (some (⟨"climb_of", ["row", "person"]⟩ : Inf)) = some inf := hi
      cases hi
      obtain ⟨fd, F⟩ := c.def_ 17 (d := D17) rfl
      exact impl_fn (N := ["row", "person", "found"]) (p := ("climb_of", none)) (fb := f17) rfl F (He.glo_ok X G (c.fact 17 (f := .glo "climb_of") rfl)) (by decide +kernel) (fun k sem csem X g hcode hq => b17 g)
    | 18, hi =>
      have hi : (some (⟨"next_up", ["row", "person"]⟩ : Inf)) = some inf := hi
      cases hi
      obtain ⟨fd, F⟩ := c.def_ 18 (d := D18) rfl
      exact impl_fn (N := ["row", "person"]) (p := ("next_up", none)) (fb := f18) rfl F (He.glo_ok X G (c.fact 18 (f := .glo "next_up") rfl)) (by decide +kernel) (fun k sem csem X g hcode hq => b18 g)
    | 19, hi =>
      have hi : (some (⟨"climb", ["row", "person"]⟩ : Inf)) = some inf := hi
      cases hi
      obtain ⟨fd, F⟩ := c.def_ 19 (d := D19) rfl
      exact impl_fn (N := ["row", "person"]) (p := ("climb", none)) (fb := f19) rfl F (He.glo_ok X G (c.fact 19 (f := .glo "climb") rfl)) (by decide +kernel) (fun k sem csem X g hcode hq => b19 g)
    | 20, hi =>
      have hi : (some (⟨"depths", ["row"]⟩ : Inf)) = some inf := hi
      cases hi
      obtain ⟨fd, F⟩ := c.def_ 20 (d := D20) rfl
      exact impl_fn (N := ["row", "person"]) (p := ("depths", none)) (fb := f20) rfl F (He.glo_ok X G (c.fact 20 (f := .glo "depths") rfl)) (by decide +kernel) (fun k sem csem X g hcode hq => b20 g)
    | 21, hi =>
      have hi : (some (⟨"looks_to_left", ["row"]⟩ : Inf)) = some inf := hi
      cases hi
      obtain ⟨fd, F⟩ := c.def_ 21 (d := D21) rfl
      exact impl_fn (N := ["row", "pairs", "_", "two", "person"]) (p := ("looks_to_left", none)) (fb := f21) rfl F (He.glo_ok X G (c.fact 21 (f := .glo "looks_to_left") rfl)) (by decide +kernel) (fun k sem csem X g hcode hq => b21 g)
    | 22, hi =>
      have hi : (some (⟨"looks_to_right", ["row"]⟩ : Inf)) = some inf := hi
      cases hi
      obtain ⟨fd, F⟩ := c.def_ 22 (d := D22) rfl
      exact impl_fn (N := ["row", "pairs", "one", "_", "person"]) (p := ("looks_to_right", none)) (fb := f22) rfl F (He.glo_ok X G (c.fact 22 (f := .glo "looks_to_right") rfl)) (by decide +kernel) (fun k sem csem X g hcode hq => b22 g)
    | 23, hi =>
      have hi : (some (⟨"looks_left", ["row"]⟩ : Inf)) = some inf := hi
      cases hi
      obtain ⟨fd, F⟩ := c.def_ 23 (d := D23) rfl
      exact impl_fn (N := ["row"]) (p := ("looks_left", none)) (fb := f23) rfl F (He.glo_ok X G (c.fact 23 (f := .glo "looks_left") rfl)) (by decide +kernel) (fun k sem csem X g hcode hq => b23 g)
    | 24, hi =>
      have hi : (some (⟨"looks_right", ["row"]⟩ : Inf)) = some inf := hi
      cases hi
      obtain ⟨fd, F⟩ := c.def_ 24 (d := D24) rfl
      exact impl_fn (N := ["row"]) (p := ("looks_right", none)) (fb := f24) rfl F (He.glo_ok X G (c.fact 24 (f := .glo "looks_right") rfl)) (by decide +kernel) (fun k sem csem X g hcode hq => b24 g)
    | 25, hi =>
      have hi : (some (⟨"seen_left", ["row", "person"]⟩ : Inf)) = some inf := hi
      cases hi
      obtain ⟨fd, F⟩ := c.def_ 25 (d := D25) rfl
      exact impl_fn (N := ["row", "person", "other"]) (p := ("seen_left", none)) (fb := f25) rfl F (He.glo_ok X G (c.fact 25 (f := .glo "seen_left") rfl)) (by decide +kernel) (fun k sem csem X g hcode hq => b25 g)
    | 26, hi =>
      have hi : (some (⟨"_law_well", ["script", "lap"]⟩ : Inf)) = some inf := hi
      cases hi
      obtain ⟨fd, F⟩ := c.def_ 26 (d := D26) rfl
      exact impl_fn (N := ["script", "lap", "stirred", "cell", "own"]) (p := ("_law_well", none)) (fb := f26) rfl F (He.glo_ok X G (c.fact 26 (f := .glo "_law_well") rfl)) (by decide +kernel) (fun k sem csem X g hcode hq => b26 g)
    | 27, hi =>
      have hi : (some (⟨"_law_draw", ["well", "limit"]⟩ : Inf)) = some inf := hi
      cases hi
      obtain ⟨fd, F⟩ := c.def_ 27 (d := D27) rfl
      exact impl_fn (N := ["well", "limit", "digit", "stir"]) (p := ("_law_draw", none)) (fb := f27) rfl F (He.glo_ok X G (c.fact 27 (f := .glo "_law_draw") rfl)) (by decide +kernel) (fun k sem csem X g hcode hq => b27 g)
    | 28, hi =>
      have hi : (some (⟨"_law_of", ["well", "some"]⟩ : Inf)) = some inf := hi
      cases hi
      obtain ⟨fd, F⟩ := c.def_ 28 (d := D28) rfl
      exact impl_fn (N := ["well", "some"]) (p := ("_law_of", none)) (fb := f28) rfl F (He.glo_ok X G (c.fact 28 (f := .glo "_law_of") rfl)) (by decide +kernel) (fun k sem csem X g hcode hq => b28 g)
    | 29, hi =>
      have hi : (some (⟨"_law_same", ["one", "two"]⟩ : Inf)) = some inf := hi
      cases hi
      obtain ⟨fd, F⟩ := c.def_ 29 (d := D29) rfl
      exact impl_fn (N := ["one", "two", "k"]) (p := ("_law_same", none)) (fb := f29) rfl F (He.glo_ok X G (c.fact 29 (f := .glo "_law_same") rfl)) (by decide +kernel) (fun k sem csem X g hcode hq => b29 g)
    | 30, hi =>
      have hi : (some (⟨"_law_row", ["well", "least", "most"]⟩ : Inf)) = some inf := hi
      cases hi
      obtain ⟨fd, F⟩ := c.def_ 30 (d := D30) rfl
      exact impl_fn (N := ["well", "least", "most", "many", "top", "found", "k", "height", "lap"]) (p := ("_law_row", none)) (fb := f30) rfl F (He.glo_ok X G (c.fact 30 (f := .glo "_law_row") rfl)) (by decide +kernel) (fun k sem csem X g hcode hq => b30 g)
    | 31, hi =>
      have hi : (some (⟨"_law_bars", ["row", "one", "two"]⟩ : Inf)) = some inf := hi
      cases hi
      obtain ⟨fd, F⟩ := c.def_ 31 (d := D31) rfl
      exact impl_fn (N := ["row", "one", "two", "low", "k"]) (p := ("_law_bars", none)) (fb := f31) rfl F (He.glo_ok X G (c.fact 31 (f := .glo "_law_bars") rfl)) (by decide +kernel) (fun k sem csem X g hcode hq => b31 g)
    | 32, hi =>
      have hi : (some (⟨"_law_seen", ["row", "person"]⟩ : Inf)) = some inf := hi
      cases hi
      obtain ⟨fd, F⟩ := c.def_ 32 (d := D32) rfl
      exact impl_fn (N := ["row", "person", "k"]) (p := ("_law_seen", none)) (fb := f32) rfl F (He.glo_ok X G (c.fact 32 (f := .glo "_law_seen") rfl)) (by decide +kernel) (fun k sem csem X g hcode hq => b32 g)
    | 33, hi =>
      have hi : (some (⟨"_law_covers", ["row", "person"]⟩ : Inf)) = some inf := hi
      cases hi
      obtain ⟨fd, F⟩ := c.def_ 33 (d := D33) rfl
      exact impl_fn (N := ["row", "person", "left", "k", "right"]) (p := ("_law_covers", none)) (fb := f33) rfl F (He.glo_ok X G (c.fact 33 (f := .glo "_law_covers") rfl)) (by decide +kernel) (fun k sem csem X g hcode hq => b33 g)
    | 34, hi =>
      have hi : (some (⟨"_law_up", ["row", "person"]⟩ : Inf)) = some inf := hi
      cases hi
      obtain ⟨fd, F⟩ := c.def_ 34 (d := D34) rfl
      exact impl_fn (N := ["row", "person", "some", "k"]) (p := ("_law_up", none)) (fb := f34) rfl F (He.glo_ok X G (c.fact 34 (f := .glo "_law_up") rfl)) (by decide +kernel) (fun k sem csem X g hcode hq => b34 g)
    | 35, hi =>
      have hi : (some (⟨"_law_climb", ["row", "person"]⟩ : Inf)) = some inf := hi
      cases hi
      obtain ⟨fd, F⟩ := c.def_ 35 (d := D35) rfl
      exact impl_fn (N := ["row", "person", "found", "lap", "up"]) (p := ("_law_climb", none)) (fb := f35) rfl F (He.glo_ok X G (c.fact 35 (f := .glo "_law_climb") rfl)) (by decide +kernel) (fun k sem csem X g hcode hq => b35 g)
    | 36, hi =>
      have hi : (some (⟨"_law_right", ["well"]⟩ : Inf)) = some inf := hi
      cases hi
      obtain ⟨fd, F⟩ := c.def_ 36 (d := D36) rfl
      exact impl_fn (N := ["well", "row", "lefts", "k", "person", "looks", "lot", "others", "most", "told", "up", "way", "due"]) (p := ("_law_right", none)) (fb := f36) rfl F (He.glo_ok X G (c.fact 36 (f := .glo "_law_right") rfl)) (by decide +kernel) (fun k sem csem X g hcode hq => b36 g)
    | 37, hi =>
      have hi : (some (⟨"law", ["script"]⟩ : Inf)) = some inf := hi
      cases hi
      obtain ⟨fd, F⟩ := c.def_ 37 (d := D37) rfl
      exact impl_fn (N := ["script", "wells", "lap", "k"]) (p := ("law", none)) (fb := f37) rfl F (He.glo_ok X G (c.fact 37 (f := .glo "law") rfl)) (by decide +kernel) (fun k sem csem X g hcode hq => b37 g)
    | n + 38, hi => simp [tx] at hi
  · intro j ps hj
    match j, hj with
    | 0, hj =>
      have hj : (some (["each", "before"] : List Str)) = some ps := hj
      cases hj
      exact impl_clo (N := ["each", "before"]) (fb := c0) (fun _ => rfl) (by decide +kernel) (fun k sem csem X g => e0 g)
    | n + 1, hj => simp [tx] at hj
end K77



set_option Elab.async false
set_option linter.all false
set_option maxRecDepth 100000
set_option maxHeartbeats 0
namespace K77
open PySem PySem.Spec PyProof.Rows L2 LamX NdefX PD
abbrev RR : PySem.W.OpenRow := PySem.W.OpenLaw.row PySem.Challenge.rw_sightrows_k77_whole_arrivals_and_climbs
def exB (K : PySem.W.Frag) : Bool := !decide (tb0 K = tb1 K) && !decide (tb1 K = tb0 K)
abbrev hk : PySem.W.Hook := He.hookX 4 fa fn [] tf exB
def ob (s : PySem.W.SharedT) : He.AlX := He.obsX 4 fa fn [] tf exB (HandSHeadRun.getT s)
theorem ob_eq (s : PySem.W.SharedT) : ob s = hk.obs s.abs := He.obsX_eq (HandSHeadRun.getT_eq s)
def loose0 : List PySem.Str := ["SightError", "InvalidNumber", "OutOfRange", "InvalidRow", "is_whole", "is_number", "wrong_at", "wrong_or_none", "MOST_PERSONS", "MOST_HEIGHT", "is_height", "wrong_row", "bars_between", "do_see_in", "pairs_of_all", "sights_of", "taller_beside", "next_up_of", "check_number", "check_any_number", "check_row", "check_person_of", "check_person", "climb_of", "next_up", "climb", "depths", "looks_to_left", "looks_to_right", "looks_left"]
def loose1 : List PySem.Str := ["looks_right", "seen_left", "_law_well", "_law_draw", "_law_of", "_law_same", "_law_row", "_law_bars", "_law_seen", "_law_covers", "_law_up", "_law_climb", "_law_right"]
def loose : List PySem.Str := loose0 ++ loose1
theorem run (w : World) : HandSHeadRun.RunEq RR (PySem.W.view RR.prog [50]) hk ob 8000 loose w := by
  intro os
  kernel_rfl
theorem law_sp {w : World} {K : PySem.W.Frag} {mg : Str → Option Value} {base : Heap} {H : Hp} {a : Addr} {ns : List Int} (law_ok : ∃ S', (lev fb cb 40).1 37 [.scr (ns.map D.int)] [] = .ok (.bl true) S') (ht : ∀ p ∈ tf, H (He.cT K p).2 = some (.tbl #[])) (hS : SqL K H a (ns.map V.int)) :
    spD (Gk w K mg base).B 1 ((lev fb cb 40).1 37) [.ref a] H (fun v _ => v = .bl true) (fun _ _ _ => False) := by
  obtain ⟨S', e⟩ := law_ok
  refine ⟨[], [], [], [.scr (ns.map D.int)], ⟨rfl, List.nodup_nil, fun n o h => by simp at h, fun a h => by simp at h⟩, fun q hq => ?_, .cons (.scr ?_ (reps_ints ns)) .nil, rfl, ?_⟩
  · have hq : q ∈ tabsK K := hq
    simp only [tabsK, List.mem_cons, List.not_mem_nil, or_false] at hq
    rcases hq with rfl | rfl
    · exact TabN.nil (ht _ (by simp))
    · exact TabN.nil (ht _ (by simp))
  · have e0 : hid ([] ++ []) H = H := by
      funext b
      simp [hid]
    rw [e0]
    exact hS
  · rw [e]
    intro v H' L' e r o t
    cases r
    rfl
theorem tabH {w : World} {K : PySem.W.Frag} {h base : Heap} {mg : Str → Option Value} (c : He.SaysX fa fn [] tf exB w h K) (t : ∀ p ∈ tf.map (He.cT K), TabB base mg p.1 p.2) : TabH K mg base := by
  have e := c.more
  unfold exB at e
  simp only [Bool.and_eq_true, Bool.not_eq_true', decide_eq_false_iff_not] at e
  exact ⟨t _ (by simp), t _ (by simp), e.1, e.2⟩
end K77
section
open PySem PySem.W PySem.Calls PyProof.Rows
theorem K77.holds (law_ok : ∀ ns : List Int, ns.length ≤ 63 → (∀ z ∈ ns, Builtin.Int.intBits z ≤ 1048576) → ∃ S', (PD.lev K77.fb K77.cb 40).1 37 [.scr (ns.map PD.D.int)] [] = .ok (.bl true) S') : PySem.Challenge.rw_sightrows_k77_whole_arrivals_and_climbs.Holds := by
  w_on; o_law
  refine HandSHeadRun.head_any (r := K77.RR) (q := view K77.RR.prog [50]) (H := K77.hk) (ob := K77.ob) (M := 8000) (loose := K77.loose) (d := HandSHeadRun.topDef K77.RR.prog 50) (kwd := []) K77.ob_eq
    (by kernel_rfl) (fun s => by kernel_rfl) K77.run (by kernel_rfl) (by kernel_rfl) (by kernel_rfl) (by rfl) (by first | assumption | decide +kernel) (by decide +kernel) ⟨rfl, rfl, rfl, rfl, rfl, by decide +kernel⟩ ?hw ?hc
  case hw => w_witness2
  case hc =>
    refine LamX.walk_ofTsE (l := PySem.Challenge.rw_sightrows_k77_whole_arrivals_and_climbs) (n := 63) (k := 40) (x := "script") (CX := fun _ => L2.CX0) rfl (by decide) (by kernel_rfl) ⟨rfl, by decide, by decide⟩ ?F (fun _ _ _ _ _ z => z)
    intro w mg fa h Y G hmg0
    obtain ⟨K, KX, c⟩ := Y
    have hmg : mg ("law" : PySem.Str) = some (.ref fa) := by
      have e : (HandSHeadRun.topDef K77.RR.prog 50).name = ("law" : PySem.Str) := by kernel_rfl
      rw [← e]
      exact hmg0
    have cd : He.SaysD K77.fa K77.fn K := c.t.d
    obtain ⟨fd, F⟩ := cd.def_ 37 (d := K77.D37) rfl
    have e := hmg.symm.trans (He.glo_ok KX G (cd.fact 37 (f := .glo "law") rfl))
    cases e
    refine ⟨K, KX, fd, K77.tf.map (He.cT K), PD.spD (K77.Gk w K mg h).B 1 ((PD.lev K77.fb K77.cb 40).1 37), ?_, ?_, ?_, ?_, ?_, ?_⟩
    · intro p hp
      obtain ⟨q, hq, rfl⟩ := List.mem_map.mp hp
      exact c.empty q hq
    · intro p hp
      obtain ⟨q, hq, rfl⟩ := List.mem_map.mp hp
      exact c.out q hq
    · intro p hp
      obtain ⟨q, hq, rfl⟩ := List.mem_map.mp hp
      exact PySem.W.codeHd_of_K KX (c.hd q hq)
    · have b := L2.FunD.bindsA (ps := ["script"]) F fun _ _ _ _ _ _ us hl => match us, hl with | [_], _ => rfl
      exact fun s v => b s [v] rfl
    · intro H a ns hl hb ht hS
      exact K77.law_sp (law_ok ns hl hb) (fun p hp => ht _ (List.mem_map_of_mem hp)) hS
    · intro base hb hns ht
      have I := K77.impl (w := w) (base := base) KX G cd (K77.tabH c ht)
      exact PD.impl_fnOk (tx := K77.tx) (G := K77.Gk w K mg base) (N := ["script", "wells", "lap", "k"]) (fb := K77.f37) (p := ("law", none)) F (by decide +kernel) (fun k sem csem X g hcode hq => K77.b37 g) 39 _ _ (I.tab 39)
end


set_option Elab.async false
set_option linter.all false
set_option maxRecDepth 100000
set_option maxHeartbeats 4000000
/-! K77m: the law's main function. -/
namespace K77
open PySem PD PM

theorem seq_ok {f g : MS} {ρ ρ1 : PD.Env} {S S1 : Sto} {r : R Flw} (h : f ρ S = .ok (.nx ρ1) S1) (h2 : g ρ1 S1 = r) : seqS f g ρ S = r := by
  rw [seqS_ap, h]
  exact h2
theorem pick0 (x : D) : pick [0] [x] = [x] := rfl
theorem pick01 (x y : D) : pick [0, 1] [x, y] = [x, y] := rfl
theorem same_nats (l : List Nat) (h : l.length ≤ 1000) (k : Nat) : sameOk (k + 1) (.tup (l.map nD)) = true := by
  show ((l.map nD).all (sameOk k) && decide ((l.map nD).length ≤ 1000)) = true
  rw [Bool.and_eq_true, List.all_eq_true, List.length_map]
  refine ⟨fun d hd => ?_, decide_eq_true h⟩
  obtain ⟨i, _, rfl⟩ := List.mem_map.mp hd
  cases k <;> rfl
theorem same_two {d : D} {k : Nat} (h : sameOk k d = true) : sameOk (k + 1) (.tup [d, d]) = true := by
  show ([d, d].all (sameOk k) && decide ([d, d].length ≤ 1000)) = true
  simp [h]
theorem same_opt (o : Option Nat) (k : Nat) : sameOk k (optD o) = true := by cases o <;> cases k <;> rfl
def LE (r : List Int) : D := .lst ((up 0 r.length).map fun p => .tup ((seenLeftL r p).map nD))
def LK (r : List Int) : List Nat := (up 0 r.length).map fun p => (seenLeftL r p).length
def OT (r : List Int) : List Nat := (up 0 r.length).map fun p => ((up (p + 1) r.length).filter fun k => see r p k).length
def DU (r : List Int) : D := .tup ((up 0 r.length).map fun p => .int ((way r p).length - 1))
theorem filter_all {α : Type} (l : List α) : l.filter (fun _ => true) = l := List.filter_eq_self.mpr (by simp)
section
variable {F_row F_seen F_same F_up F_lclimb F_looksL F_looksR F_next F_climb F_depths F_seenL : MF}
theorem lefts_st (hs : S_lawSeen F_seen) {r : List Int} (ok : RowOk r) (w : D) (S : Sto) :
    asgS (compM [4] (rng1 (consL (mL (consL (slotM 1) nilL) lenS) nilL)) (setE 4) yesM (mL (consL (compM [3] (seqI (mL (consL (slotM 1) (consL (slotM 4) nilL)) (callS F_seen 2))) (setE 3) (truM (m2 (slotM 3) (slotM 4) ltS)) (slotM 3)) nilL) tupleS)) (setE 2) [some w, some (rowD r), none, none, none, none, none, none, none, none, none, none, none] S =
      .ok (.nx [some w, some (rowD r), some (LE r), none, none, none, none, none, none, none, none, none, none]) S := by
  have hl := ok.le
  have h0 : rngOk1 (r.length : Int) = true := rok1 (by unfold lim; omega)
  have key := compR0 (v := 4) (ft := yesM) (fe := mL (consL (compM [3] (seqI (mL (consL (slotM 1) (consL (slotM 4) nilL)) (callS F_seen 2))) (setE 3) (truM (m2 (slotM 3) (slotM 4) ltS)) (slotM 3)) nilL) tupleS) (ρ := [some w, some (rowD r), none, none, none, none, none, none, none, none, none, none, none]) (S := S) (fun _ => true) (fun p => .tup ((seenLeftL r p).map nD)) (b := r.length) (by simp) (fun p hp => by
    have e := hs r p S (by omega) hp
    have k2 := comp_map (v := 3) (ft := truM (m2 (slotM 3) (slotM 4) ltS)) (fe := slotM 3) (ρ := [some w, some (rowD r), none, none, some (nD p), none, none, none, none, none, none, none, none]) (S := S) nD (fun k => decide (k < p)) nD (lawSeen r p) (by simp) (fun k _ => by simp)
    rw [lefts_eq ok.nd hp] at k2
    simp only [nD] at e k2
    simp [e, k2, tupleS])
  rw [filter_all] at key
  simp [len_row, h0, key, LE]
theorem looks_st {r : List Int} (w : D) (S : Sto) :
    asgS (mL (consL (compM [6] (seqI (slotM 2)) (setE 6) yesM (mL (consL (slotM 6) nilL) lenS)) nilL) tupleS) (setE 5) [some w, some (rowD r), some (LE r), none, none, none, none, none, none, none, none, none, none] S =
      .ok (.nx [some w, some (rowD r), some (LE r), none, none, some (.tup ((LK r).map nD)), none, none, none, none, none, none, none]) S := by
  have k2 := comp_map (v := 6) (ft := yesM) (fe := mL (consL (slotM 6) nilL) lenS) (ρ := [some w, some (rowD r), some (LE r), none, none, none, none, none, none, none, none, none, none]) (S := S) (fun p => .tup ((seenLeftL r p).map nD)) (fun _ => true) (fun p => nD (seenLeftL r p).length) (up 0 r.length) (by simp) (fun k _ => by simp [lenS])
  rw [filter_all] at k2
  simp only [LE] at k2
  simp [LE, k2, tupleS, LK, Function.comp_def]
theorem others_st (hs : S_lawSeen F_seen) {r : List Int} (ok : RowOk r) (w : D) (S : Sto) :
    asgS (mL (consL (compM [4] (rng1 (consL (mL (consL (slotM 1) nilL) lenS) nilL)) (setE 4) yesM (mL (consL (compM [3] (seqI (mL (consL (slotM 1) (consL (slotM 4) nilL)) (callS F_seen 2))) (setE 3) (truM (m2 (slotM 3) (slotM 4) gtS)) (slotM 3)) nilL) lenS)) nilL) tupleS) (setE 7) [some w, some (rowD r), some (LE r), none, none, some (.tup ((LK r).map nD)), none, none, none, none, none, none, none] S =
      .ok (.nx [some w, some (rowD r), some (LE r), none, none, some (.tup ((LK r).map nD)), none, some (.tup ((OT r).map nD)), none, none, none, none, none]) S := by
  have hl := ok.le
  have h0 : rngOk1 (r.length : Int) = true := rok1 (by unfold lim; omega)
  have key := compR0 (v := 4) (ft := yesM) (fe := mL (consL (compM [3] (seqI (mL (consL (slotM 1) (consL (slotM 4) nilL)) (callS F_seen 2))) (setE 3) (truM (m2 (slotM 3) (slotM 4) gtS)) (slotM 3)) nilL) lenS) (ρ := [some w, some (rowD r), some (LE r), none, none, some (.tup ((LK r).map nD)), none, none, none, none, none, none, none]) (S := S) (fun _ => true) (fun p => nD ((up (p + 1) r.length).filter fun k => see r p k).length) (b := r.length) (by simp) (fun p hp => by
    have e := hs r p S (by omega) hp
    have k2 := comp_map (v := 3) (ft := truM (m2 (slotM 3) (slotM 4) gtS)) (fe := slotM 3) (ρ := [some w, some (rowD r), some (LE r), none, some (nD p), some (.tup ((LK r).map nD)), none, none, none, none, none, none, none]) (S := S) nD (fun k => decide (p < k)) nD (lawSeen r p) (by simp) (fun k _ => by simp)
    rw [rights_eq ok.nd hp] at k2
    simp only [nD] at e k2
    simp [e, k2, lenS])
  rw [filter_all] at key
  simp [len_row, h0, key, OT, tupleS, Function.comp_def]
/-- both ways the same -/
theorem both_st {fa fb fc : MD} {d : D} {ρ : PD.Env} {S S1 S2 : Sto} (hs : S_same 4 F_same) (hd : sameOk 3 d = true) (h1 : fa ρ S = .ok d S1) (h2 : fb ρ S1 = .ok d S2) (h3 : fc ρ S2 = .ok d S2) :
    ifS (notM (mL (consL (mL (consL fa (consL fb nilL)) tupS) (consL (mL (consL fc (consL fc nilL)) tupS) nilL)) (callS F_same 2))) (seqS (retS (conM (.bl false))) nextS) nextS ρ S = .ok (.nx ρ) S2 := by
  have e := hs (.tup [d, d]) S2 (same_two hd)
  have l2 : 2 ≤ lim := by decide
  simp [h1, h2, h3, l2, e]
theorem lk_at {r : List Int} {i : Nat} (hi : i < r.length) : ((LK r).map nD)[i]? = some (nD (seenLeftL r i).length) := by
  have h : i < ((LK r).map nD).length := by simp [LK, up_len, hi]
  rw [List.getElem?_eq_getElem h]
  simp [LK, up]
theorem le_at {r : List Int} {i : Nat} (hi : i < r.length) : ((up 0 r.length).map fun p => D.tup ((seenLeftL r p).map nD))[i]? = some (.tup ((seenLeftL r i).map nD)) := by
  have h : i < ((up 0 r.length).map fun p => D.tup ((seenLeftL r p).map nD)).length := by simp [up_len, hi]
  rw [List.getElem?_eq_getElem h]
  simp [up]
theorem filter_len {α : Type} (l : List α) (p : α → Bool) : (l.filter p).length ≤ l.length := List.length_filter_le p l
theorem seen_len (r : List Int) (p : Nat) : (seenLeftL r p).length ≤ p := by
  have := filter_len (up 0 p) fun k => see r k p
  rw [up_len] at this
  unfold seenLeftL
  omega
def bodyS (F_lclimb F_same F_up F_climb F_next F_seenL : MF) : MS := (seqS (ifS (boolM false (m2 (m2 (slotM 5) (slotM 4) idxS) (iteM (m2 (slotM 4) (conM (.int 0)) gtS) (slotM 8) (conM (.int 0))) gtS) (boolM true (m2 (slotM 4) (conM (.int 0)) gtS) (m2 (m2 (slotM 5) (slotM 4) idxS) (conM (.int 1)) ltS))) (seqS (retS (conM (.bl false))) nextS) nextS) (seqS (asgS (iteM (m2 (slotM 4) (conM (.int 0)) gtS) (m2 (m2 (slotM 8) (m2 (slotM 5) (slotM 4) idxS) (intS fun i j => some (i - j))) (conM (.int 2)) addS) (conM (.int 1))) (setE 8)) (seqS (asgS (mL (consL (mL (consL (slotM 1) (consL (slotM 4) nilL)) (callS F_seenL 2)) (consL (callK F_seenL 2 [0, 1] (consL (slotM 1) nilL) (consL (slotM 4) nilL)) nilL)) tupS) (setE 9)) (seqS (ifS (notM (mL (consL (slotM 9) (consL (mL (consL (m2 (slotM 2) (slotM 4) idxS) (consL (m2 (slotM 2) (slotM 4) idxS) nilL)) tupS) nilL)) (callS F_same 2))) (seqS (retS (conM (.bl false))) nextS) nextS) (seqS (parS [10, 11] (consL (mL (consL (slotM 1) (consL (slotM 4) nilL)) (callS F_up 2)) (consL (mL (consL (slotM 1) (consL (slotM 4) nilL)) (callS F_lclimb 2)) nilL))) (seqS (ifS (notM (mL (consL (mL (consL (mL (consL (slotM 1) (consL (slotM 4) nilL)) (callS F_next 2)) (consL (callK F_next 2 [0, 1] (consL (slotM 1) nilL) (consL (slotM 4) nilL)) nilL)) tupS) (consL (mL (consL (slotM 10) (consL (slotM 10) nilL)) tupS) nilL)) (callS F_same 2))) (seqS (retS (conM (.bl false))) nextS) nextS) (seqS (ifS (notM (mL (consL (mL (consL (mL (consL (slotM 1) (consL (slotM 4) nilL)) (callS F_climb 2)) (consL (callK F_climb 2 [0, 1] (consL (slotM 1) nilL) (consL (slotM 4) nilL)) nilL)) tupS) (consL (mL (consL (slotM 11) (consL (slotM 11) nilL)) tupS) nilL)) (callS F_same 2))) (seqS (retS (conM (.bl false))) nextS) nextS) nextS)))))))
/-- one person's turn -/
theorem turn_st (hs : S_same 4 F_same) (hu : S_lawUp F_up) (hc : S_lawClimb F_lclimb) (h1 : S_next_up F_next) (h2 : S_climb F_climb) (h3 : S_seen_left F_seenL) {r : List Int} (ok : RowOk r) (w : D) {i : Nat} (hi : i < r.length) (most : Int) (hm : i = 0 ∨ ((St r i).length : Int) ≤ most) (o9 o10 o11 : Option D) (S : Sto) :
    ∃ (most' : Int) (o9' o10' o11' : Option D) (E : Sto), ((St r (i + 1)).length : Int) ≤ most' ∧ bodyS F_lclimb F_same F_up F_climb F_next F_seenL [some w, some (rowD r), some (LE r), none, some (nD i), some (.tup ((LK r).map nD)), none, some (.tup ((OT r).map nD)), some (.int most), o9, o10, o11, none] S =
      .ok (.nx [some w, some (rowD r), some (LE r), none, some (nD i), some (.tup ((LK r).map nD)), none, some (.tup ((OT r).map nD)), some (.int most'), o9', o10', o11', none]) (S ++ E) := by
  have hl := ok.le
  have l2 : 2 ≤ lim := by decide
  have el : idxS (.tup ((LK r).map nD)) (.int (i : Int)) S = .ok (.int ((seenLeftL r i).length : Int)) S := by
    have := idx_nat ((LK r).map nD) i S
    rw [lk_at hi] at this
    exact this
  have ee : ∀ S, idxS (LE r) (.int (i : Int)) S = .ok (.tup ((seenLeftL r i).map nD)) S := fun S => by
    have := idx_natL ((up 0 r.length).map fun p => D.tup ((seenLeftL r p).map nD)) i S
    rw [le_at hi] at this
    exact this
  have e3 := fun S => h3 r i S ok hi
  have e1 := fun S => h1 r i S ok hi
  have e2 := fun S => h2 r i S ok hi
  have eu := fun S => hu r i S (by omega) hi
  have ec := fun S => hc r i S (by omega) hi
  have lk := look_le r i
  have ls := look_step r i
  have hsl := seen_len r i
  have sm1 := same_nats (seenLeftL r i) (by omega) 2
  have sm2 : sameOk 3 (.tup ((way r i).map nD)) = true := same_nats (way r i) (by
    have := path_len r r.length i
    unfold way
    omega) 2
  have q01 : ∀ x y : D, pick [0, 1] [x, y] = [x, y] := pick01
  obtain ⟨most', hm', em⟩ : ∃ most' : Int, ((St r (i + 1)).length : Int) ≤ most' ∧ iteM (m2 (slotM 4) (conM (.int 0)) gtS) (m2 (m2 (slotM 8) (m2 (slotM 5) (slotM 4) idxS) (intS fun i j => some (i - j))) (conM (.int 2)) addS) (conM (.int 1)) [some w, some (rowD r), some (LE r), none, some (nD i), some (.tup ((LK r).map nD)), none, some (.tup ((OT r).map nD)), some (.int most), o9, o10, o11, none] S = .ok (.int most') S := by
    by_cases q : i = 0
    · subst q
      exact ⟨1, by rw [st_one]; exact Int.le_refl _, by simp⟩
    · refine ⟨most - ((seenLeftL r i).length : Int) + 2, ?_, ?_⟩
      · rcases hm with hm | hm
        · exact absurd hm q
        · omega
      · have q' : 0 < i := by omega
        simp [q', el, -idx_nat, -idx_natL]
  refine ⟨most', some (.tup [.tup ((seenLeftL r i).map nD), .tup ((seenLeftL r i).map nD)]), some (optD (upO r i)), some (.tup ((way r i).map nD)), [.lst ((way r i).map nD), .lst ((way r i).map nD)], hm', ?_⟩
  unfold bodyS
  -- the bounds
  refine seq_ok (ρ1 := [some w, some (rowD r), some (LE r), none, some (nD i), some (.tup ((LK r).map nD)), none, some (.tup ((OT r).map nD)), some (.int most), o9, o10, o11, none]) (S1 := S) ?_ ?_
  · by_cases q : i = 0
    · subst q
      have hz : (seenLeftL r 0).length = 0 := by omega
      rw [hz] at el
      have el0 : idxS (.tup ((LK r).map nD)) (nD 0) S = .ok (.int 0) S := el
      simp [el0, -idx_nat, -idx_natL]
    · have q' : 0 < i := by omega
      have lp := look_pos r i q'
      have a1 : ¬ most < ((seenLeftL r i).length : Int) := by
        rcases hm with hm | hm
        · exact absurd hm q
        · omega
      have a2 : ¬ ((seenLeftL r i).length : Int) < 1 := by omega
      simp [q', el, a1, a2, -idx_nat, -idx_natL]
  refine seq_ok (ρ1 := [some w, some (rowD r), some (LE r), none, some (nD i), some (.tup ((LK r).map nD)), none, some (.tup ((OT r).map nD)), some (.int most'), o9, o10, o11, none]) (S1 := S) ?_ ?_
  · rw [asgS_ap, em]
    simp
  refine seq_ok (ρ1 := [some w, some (rowD r), some (LE r), none, some (nD i), some (.tup ((LK r).map nD)), none, some (.tup ((OT r).map nD)), some (.int most'), some (.tup [.tup ((seenLeftL r i).map nD), .tup ((seenLeftL r i).map nD)]), o10, o11, none]) (S1 := S) ?_ ?_
  · simp only [nD] at e3
    simp [e3, q01, l2]
  refine seq_ok (ρ1 := [some w, some (rowD r), some (LE r), none, some (nD i), some (.tup ((LK r).map nD)), none, some (.tup ((OT r).map nD)), some (.int most'), some (.tup [.tup ((seenLeftL r i).map nD), .tup ((seenLeftL r i).map nD)]), o10, o11, none]) (S1 := S) ?_ ?_
  · have e := hs (.tup [.tup ((seenLeftL r i).map nD), .tup ((seenLeftL r i).map nD)]) S (same_two sm1)
    simp [ee, l2, e, -idx_nat, -idx_natL]
  refine seq_ok (ρ1 := [some w, some (rowD r), some (LE r), none, some (nD i), some (.tup ((LK r).map nD)), none, some (.tup ((OT r).map nD)), some (.int most'), some (.tup [.tup ((seenLeftL r i).map nD), .tup ((seenLeftL r i).map nD)]), some (optD (upO r i)), some (.tup ((way r i).map nD)), none]) (S1 := S) ?_ ?_
  · simp only [nD] at eu ec
    simp [eu, ec]
  refine seq_ok (S1 := S) (both_st hs (same_opt (upO r i) 3) (S1 := S) ?_ ?_ ?_) ?_
  · simp only [nD] at e1
    simp [e1]
  · simp only [nD] at e1
    simp [e1, q01]
  · simp
  refine seq_ok (S1 := S ++ [.lst ((way r i).map nD), .lst ((way r i).map nD)]) (both_st hs sm2 (S1 := S ++ [.lst ((way r i).map nD)]) ?_ ?_ ?_) ?_
  · simp only [nD] at e2
    simp [e2]
  · simp only [nD] at e2
    simp [e2, q01]
  · simp
  rfl
/-! ### the whole of one row -/
def S_right (F : MF) : Prop := ∀ (S : Sto) (n : Nat) (a b c : Int), Well S n a b c → 0 ≤ a → ∃ (S' : Sto) (a' b' c' : Int), 0 ≤ a' ∧ F [.loc n] S = .ok (.bl true) S' ∧ Well S' n a' b' c' ∧ S.length ≤ S'.length ∧ ∀ m, m < S.length → m ≠ n → S'[m]? = S[m]?
theorem right_ok (hr : S_row F_row) (hn : S_lawSeen F_seen) (hs : S_same 4 F_same) (hu : S_lawUp F_up) (hc : S_lawClimb F_lclimb) (hL : S_looksL' F_looksL) (hR : S_looksR' F_looksR) (h1 : S_next_up F_next) (h2 : S_climb F_climb) (hd : S_depths F_depths) (h3 : S_seen_left F_seenL) :
    S_right (runS 13 (r__law_right F_lclimb F_row F_same F_seen F_up F_climb F_depths F_looksL F_looksR F_next F_seenL)) := by
  intro S n a b c hw ha
  obtain ⟨r, a1, b1, c1, ha1, hl1, hl2, nd, hb, er⟩ := hr S n a b c 1 10 hw ha (by omega) (by omega) (by omega)
  have ok : RowOk r := ⟨by rintro rfl; simp at hl1, by omega, nd, hb⟩
  have hl := ok.le
  have hn' := hw.lt
  have l2 : 2 ≤ lim := by decide
  generalize hT : S.set n (.lst [.int a1, .int b1, .int c1]) = T at *
  have h0 : rngOk1 (r.length : Int) = true := rok1 (by unfold lim; omega)
  have eL := hL r T ok
  have eR := hR r T ok
  have e1 : (up 0 r.length).map (fun p => nD ((sightsL r).filter fun z => decide (z.2 = p)).length) = (LK r).map nD := by
    unfold LK
    rw [List.map_map]
    exact List.map_congr_left fun p hp => congrArg nD (snd_count (up_lt hp))
  have e2 : (up 0 r.length).map (fun p => nD ((sightsL r).filter fun z => decide (z.1 = p)).length) = (OT r).map nD := by
    unfold OT
    rw [List.map_map]
    exact List.map_congr_left fun p hp => congrArg nD (fst_count (up_lt hp))
  rw [e1] at eL
  rw [e2] at eR
  have sL : sameOk 3 (.tup ((LK r).map nD)) = true := same_nats _ (by simp [LK, up_len]; omega) 2
  have sR : sameOk 3 (.tup ((OT r).map nD)) = true := same_nats _ (by simp [OT, up_len]; omega) 2
  -- the loop
  have loop : ∃ (most : Int) (o4 o9 o10 o11 : Option D) (E : Sto), forS (rng1 (consL (mL (consL (slotM 1) nilL) lenS) nilL)) (setE 4) (bodyS F_lclimb F_same F_up F_climb F_next F_seenL) [some (.loc n), some (rowD r), some (LE r), none, none, some (.tup ((LK r).map nD)), none, some (.tup ((OT r).map nD)), some (.int 1), none, none, none, none] T =
      .ok (.nx [some (.loc n), some (rowD r), some (LE r), none, o4, some (.tup ((LK r).map nD)), none, some (.tup ((OT r).map nD)), some (.int most), o9, o10, o11, none]) (T ++ E) := by
    obtain ⟨ρ', S', e, most, o4, o9, o10, o11, E, rfl, rfl, _⟩ := forL_inv (fg := setE 4) (fb := bodyS F_lclimb F_same F_up F_climb F_next F_seenL)
      (fun i ρ S' => ∃ (most : Int) (o4 o9 o10 o11 : Option D) (E : Sto), S' = T ++ E ∧ ρ = [some (.loc n), some (rowD r), some (LE r), none, o4, some (.tup ((LK r).map nD)), none, some (.tup ((OT r).map nD)), some (.int most), o9, o10, o11, none] ∧ (i = 0 ∨ ((St r i).length : Int) ≤ most))
      (rngD 0 r.length) 0 [some (.loc n), some (rowD r), some (LE r), none, none, some (.tup ((LK r).map nD)), none, some (.tup ((OT r).map nD)), some (.int 1), none, none, none, none] T ⟨1, none, none, none, none, [], by simp, rfl, .inl rfl⟩ (fun i d ρ S' hd ⟨most, o4, o9, o10, o11, E, q1, q2, hm⟩ => by
        subst q1 q2
        have hi : i < r.length := by
          have := (List.getElem?_eq_some_iff.mp hd).1
          rw [rngD_len] at this
          omega
        have hd' := rngD_get (a := 0) (b := r.length) (i := i) (by omega)
        rw [hd] at hd'
        cases hd'
        rw [Nat.zero_add] at hm ⊢
        obtain ⟨most', p9, p10, p11, E', hm', e⟩ := turn_st hs hu hc h1 h2 h3 ok (.loc n) hi most hm o9 o10 o11 (T ++ E)
        refine ⟨_, T ++ E ++ E', ?_, most', some (nD i), p9, p10, p11, E ++ E', by rw [List.append_assoc], rfl, .inr hm'⟩
        rw [← e]
        simp [nD])
    refine ⟨most, o4, o9, o10, o11, E, ?_⟩
    rw [← e]
    simp [len_row, h0]
  obtain ⟨most, o4, o9, o10, o11, E, eloop⟩ := loop
  -- the end
  obtain ⟨E1, d1⟩ := hd r (T ++ E) ok
  obtain ⟨E2, d2⟩ := hd r (T ++ E ++ E1) ok
  have eDU : ∀ (S : Sto), compL (setE 4) yesM (m2 (mL (consL (mL (consL (slotM 1) (consL (slotM 4) nilL)) (callS F_lclimb 2)) nilL) lenS) (conM (.int 1)) (intS fun i j => some (i - j))) (rngD 0 r.length) [some (.loc n), some (rowD r), some (LE r), none, none, some (.tup ((LK r).map nD)), none, some (.tup ((OT r).map nD)), some (.int most), o9, o10, o11, none] S = .ok ((up 0 r.length).map fun p => .int ((way r p).length - 1)) S := fun S => by
    have key := compR0 (v := 4) (ft := yesM) (fe := m2 (mL (consL (mL (consL (slotM 1) (consL (slotM 4) nilL)) (callS F_lclimb 2)) nilL) lenS) (conM (.int 1)) (intS fun i j => some (i - j))) (ρ := [some (.loc n), some (rowD r), some (LE r), none, none, some (.tup ((LK r).map nD)), none, some (.tup ((OT r).map nD)), some (.int most), o9, o10, o11, none]) (S := S) (fun _ => true) (fun p => .int ((way r p).length - 1)) (b := r.length) (by simp) (fun p hp => by
      have e := hc r p S (by omega) hp
      simp only [nD] at e
      simp [e, lenS])
    rw [filter_all] at key
    exact key
  have sD : sameOk 3 (DU r) = true := by
    unfold DU
    show (((up 0 r.length).map _).all (sameOk 2) && decide (((up 0 r.length).map _).length ≤ 1000)) = true
    rw [Bool.and_eq_true, List.all_eq_true, List.length_map, up_len]
    refine ⟨fun d hd => ?_, decide_eq_true (by omega)⟩
    obtain ⟨i, _, rfl⟩ := List.mem_map.mp hd
    rfl
  have eS := hs (.tup [DU r, DU r]) (T ++ E ++ E1 ++ E2) (same_two sD)
  refine ⟨T ++ E ++ E1 ++ E2, a1, b1, c1, ha1, ?_, ?_, ?_, ?_⟩
  · have main : r__law_right F_lclimb F_row F_same F_seen F_up F_climb F_depths F_looksL F_looksR F_next F_seenL [some (.loc n), none, none, none, none, none, none, none, none, none, none, none, none] S = .ok (.rt (.bl true)) (T ++ E ++ E1 ++ E2) := by
      unfold r__law_right
      refine seq_ok (ρ1 := [some (.loc n), some (rowD r), none, none, none, none, none, none, none, none, none, none, none]) (S1 := T) (by simp [er]) ?_
      refine seq_ok (lefts_st hn ok (.loc n) T) ?_
      refine seq_ok (looks_st (.loc n) T) ?_
      refine seq_ok (others_st hn ok (.loc n) T) ?_
      refine seq_ok (S1 := T) (both_st hs sL (S1 := T) (by simp [eL]) (by simp [eL, pick0]) (by simp)) ?_
      refine seq_ok (S1 := T) (both_st hs sR (S1 := T) (by simp [eR]) (by simp [eR, pick0]) (by simp)) ?_
      refine seq_ok (ρ1 := [some (.loc n), some (rowD r), some (LE r), none, none, some (.tup ((LK r).map nD)), none, some (.tup ((OT r).map nD)), some (.int 1), none, none, none, none]) (S1 := T) (by simp) ?_
      refine seq_ok eloop ?_
      refine seq_ok (ρ1 := [some (.loc n), some (rowD r), some (LE r), none, o4, some (.tup ((LK r).map nD)), none, some (.tup ((OT r).map nD)), some (.int most), o9, o10, o11, some (DU r)]) (S1 := T ++ E) ?_ ?_
      · have := eDU (T ++ E)
        simp [len_row, h0, this, tupleS, DU]
      · simp only [DU] at eS
        simp only [List.append_assoc] at d1 d2 eS ⊢
        simp [d1, d2, pick0, l2, DU, eS]
    show (r__law_right F_lclimb F_row F_same F_seen F_up F_climb F_depths F_looksL F_looksR F_next F_seenL [some (.loc n), none, none, none, none, none, none, none, none, none, none, none, none] S).bind _ = _
    rw [main]
    rfl
  · unfold Well
    rw [List.append_assoc, List.append_assoc, List.getElem?_append_left (by rw [← hT, List.length_set]; exact hn'), ← hT]
    exact List.getElem?_set_self hn'
  · rw [List.append_assoc, List.append_assoc, List.length_append, ← hT, List.length_set]
    omega
  · intro m hm hmn
    rw [List.append_assoc, List.append_assoc, List.getElem?_append_left (by rw [← hT, List.length_set]; exact hm), ← hT, List.getElem?_set_ne (fun z => hmn z.symm)]
end
end K77


set_option Elab.async false
set_option linter.all false
set_option maxRecDepth 100000
set_option maxHeartbeats 4000000
/-! K77e: the law. -/
namespace K77
open PySem PD PM

theorem compL_run {fg : ME} {ft : MB} {fe : MD} {ρ : PD.Env} (P : Sto → Prop) (g : D) : ∀ (ds : List D) (S : Sto), P S → (∀ d ∈ ds, ∀ S, P S → ∃ ρ1 S', fg d ρ S = .ok ρ1 S ∧ ft ρ1 S = .ok true S ∧ fe ρ1 S = .ok g S' ∧ P S') → ∃ S', compL fg ft fe ds ρ S = .ok (ds.map fun _ => g) S' ∧ P S'
  | [], S, h, _ => ⟨S, rfl, h⟩
  | d :: ds, S, h, st => by
    obtain ⟨ρ1, S1, e1, e2, e3, h1⟩ := st d List.mem_cons_self S h
    obtain ⟨S2, e4, h2⟩ := compL_run P g ds S1 h1 fun z hz => st z (List.mem_cons_of_mem _ hz)
    refine ⟨S2, ?_, h2⟩
    unfold compL
    simp [e1, e2, e3, e4]
/-- both wells stand -/
def Wells (S : Sto) : Prop := ∃ a b c a' b' c' : Int, 0 ≤ a ∧ 0 ≤ a' ∧ Well S 0 a b c ∧ Well S 1 a' b' c'
theorem law_run {F_right F_well : MF} (hr : S_right F_right) (hw : S_well F_well) (ns : List Int) (hl : ns.length ≤ 63) : ∃ S', runS 4 (PM.r_law F_right F_well) [.scr (ns.map D.int)] [] = .ok (.bl true) S' := by
  obtain ⟨a, b, ha, e1⟩ := hw ns 0 [] (by omega) (by omega)
  obtain ⟨a', b', ha', e2⟩ := hw ns 1 [.lst [.int a, .int b, .int 0]] (by omega) (by omega)
  have g2 : rngOk1 2 = true := rok1 (n := 2) (by decide)
  have g24 : rngOk1 24 = true := rok1 (n := 24) (by decide)
  have r2 : rngD 0 2 = [.int 0, .int 1] := rfl
  have w0 : Wells [.lst [.int a, .int b, .int 0], .lst [.int a', .int b', .int 0]] := ⟨a, b, 0, a', b', 0, ha, ha', rfl, rfl⟩
  obtain ⟨S', e3, _⟩ := compL_run (fg := setE 3) (ft := yesM) (fe := mL (consL (m2 (slotM 1) (m2 (mL (consL (slotM 3) nilL) intS1) (conM (.int 2)) (intS gMod)) idxS) nilL) (callS F_right 1)) (ρ := [some (.scr (ns.map D.int)), some (.lst [.loc 0, .loc 1]), none, none]) Wells (.bl true) (rngD 0 24) _ w0 (fun d hd S hS => by
    obtain ⟨i, _, rfl⟩ : ∃ i : Nat, i < 24 ∧ d = .int (i : Int) := by
      have hd : d ∈ rngD ((0 : Nat) : Int) ((24 : Nat) : Int) := hd
      rw [rngD_up] at hd
      obtain ⟨i, hi, rfl⟩ := List.mem_map.mp hd
      exact ⟨i, up_lt hi, rfl⟩
    obtain ⟨a, b, c, a', b', c', ha, ha', h0, h1⟩ := hS
    have gm : gMod (i : Int) 2 = some ((i : Int) % 2) := mod_r (by decide)
    rcases Nat.mod_two_eq_zero_or_one i with q | q
    · have q' : (i : Int) % 2 = 0 := by omega
      obtain ⟨S', a1, b1, c1, ha1, er, hw1, hlen, ho⟩ := hr S 0 a b c h0 ha
      have i0 : idxS (.lst [.loc 0, .loc 1]) (.int 0) S = .ok (.loc 0) S := rfl
      refine ⟨_, S', by simp; rfl, by simp, ?_, a1, b1, c1, a', b', c', ha1, ha', hw1, ?_⟩
      · simp [gm, q', i0, er]
      · exact (ho 1 h1.lt (by omega)).trans h1
    · have q' : (i : Int) % 2 = 1 := by omega
      obtain ⟨S', a1, b1, c1, ha1, er, hw1, hlen, ho⟩ := hr S 1 a' b' c' h1 ha'
      have i0 : idxS (.lst [.loc 0, .loc 1]) (.int 1) S = .ok (.loc 1) S := rfl
      refine ⟨_, S', by simp; rfl, by simp, ?_, a, b, c, a1, b1, c1, ha, ha1, ?_, hw1⟩
      · simp [gm, q', i0, er]
      · exact (ho 0 h0.lt (by omega)).trans h0)
  refine ⟨S', ?_⟩
  have l24 : (rngD 0 24).length = 24 := by rw [rngD_len]; rfl
  have em : (rngD 0 24).map (fun _ => D.bl true) = List.replicate 24 (.bl true) := by rw [List.map_const', l24]
  rw [em] at e3
  have ea : allS false [.lst (List.replicate 24 (.bl true))] S' = .ok (.bl true) S' := rfl
  generalize List.replicate 24 (D.bl true) = X at *
  simp only [nD, List.length_nil, List.nil_append] at e1
  have e2' : F_well [.scr (ns.map D.int), .int 1] [.lst [.int a, .int b, .int 0]] = .ok (.loc 1) [.lst [.int a, .int b, .int 0], .lst [.int a', .int b', .int 0]] := e2
  have e1' : F_well [.scr (ns.map D.int), .int 0] [] = .ok (.loc 0) [.lst [.int a, .int b, .int 0]] := e1
  have ew : compL (setE 2) yesM (mL (consL (slotM 0) (consL (slotM 2) nilL)) (callS F_well 2)) [.int 0, .int 1] [some (.scr (ns.map D.int)), none, none, none] [] = .ok [.loc 0, .loc 1] [.lst [.int a, .int b, .int 0], .lst [.int a', .int b', .int 0]] := by
    simp [compL, e1', e2']
  simp [PM.r_law, g2, r2, ew, g24, e3, ea]

/-! ### all together -/
abbrev A (k i : Nat) : MF := (lev fb cb k).1 i
abbrev C (k i : Nat) : MF := (lev fb cb k).2 i
theorem q0 (k : Nat) : S_is_whole (A (k + 1) 0) := is_whole_ok
theorem q1 (k : Nat) : S_is_number (A (k + 2) 1) := is_number_ok (q0 k)
theorem q4 (k : Nat) : S_is_height (A (k + 3) 4) := is_height_ok (q1 k)
theorem qc0 (k : Nat) : S_is_right (C (k + 4) 0) := is_right_ok (q4 k)
theorem q2 (k : Nat) : S_wrong_at (A (k + 5) 2) 0 := wrong_at_ok (gF := heldF tx (lev fb cb (k + 4)).1) (G := C (k + 4) 0) rfl (qc0 k)
theorem q3 (k : Nat) : S_wrong_none (A (k + 6) 3) 0 := wrong_none_ok (q2 k)
theorem q5 (k : Nat) : S_wrong_row (A (k + 7) 5) := wrong_row_ok (q3 k)
theorem q14 (k : Nat) : S_check_row (A (k + 8) 14) := check_row_ok (q5 k)
theorem q12 (k : Nat) : S_check_number (A (k + 3) 12) := check_number_ok (q1 k)
theorem q13 (k : Nat) : S_check_any (A (k + 4) 13) := check_any_ok (q12 k)
theorem q15 (k : Nat) : S_check_person_of (A (k + 5) 15) := check_person_of_ok (q13 k)
theorem q16 (k : Nat) : S_check_person (A (k + 9) 16) := check_person_ok (q15 (k + 3)) (q14 k)
theorem q6 (k : Nat) : S_bars (A (k + 1) 6) := bars_ok
theorem q7 (k : Nat) : S_see (A (k + 2) 7) := see_ok (q6 k)
theorem q8 (k : Nat) : S_pairs (A (k + 1) 8) := pairs_ok
theorem q9 (k : Nat) : S_sights (A (k + 3) 9) := sights_ok (q7 k) (q8 (k + 1))
theorem q10 (k : Nat) : S_beside (A (k + 1) 10) := beside_ok
theorem q11 (k : Nat) : S_nextL (A (k + 2) 11) := nextL_ok (q10 k)
theorem q17 (k : Nat) : S_climbL (A (k + 3) 17) := climbL_ok (q11 k)
theorem q18 (k : Nat) : S_next_up (A (k + 10) 18) := next_up_ok (q16 k) (q11 (k + 7))
theorem q19 (k : Nat) : S_climb (A (k + 10) 19) := climb_ok (q16 k) (q17 (k + 6))
theorem q20 (k : Nat) : S_depths (A (k + 9) 20) := depths_ok (q14 k) (q17 (k + 5))
theorem q21 (k : Nat) : S_looksL (A (k + 4) 21) := looksL_ok (q9 k)
theorem q22 (k : Nat) : S_looksR (A (k + 4) 22) := looksR_ok (q9 k)
theorem q23 (k : Nat) : S_looksL' (A (k + 9) 23) := looksL'_ok (q14 k) (q21 (k + 4))
theorem q24 (k : Nat) : S_looksR' (A (k + 9) 24) := looksR'_ok (q14 k) (q22 (k + 4))
theorem q25 (k : Nat) : S_seen_left (A (k + 10) 25) := seen_left_ok (q16 k) (q7 (k + 7))
theorem q26 (k : Nat) : S_well (A (k + 1) 26) := well_ok
theorem q27 (k : Nat) : S_draw (A (k + 1) 27) := draw_ok
theorem q28 (k : Nat) : S_of (A (k + 2) 28) := of_ok (q27 k)
theorem q30 (k : Nat) : S_row (A (k + 3) 30) := row_ok (q27 (k + 1)) (q28 k)
theorem q29 (k : Nat) : S_same 4 (A (k + 5) 29) := by
  have z0 : S_same 0 (A (k + 1) 29) := same_ok0
  have z1 : S_same 1 (A (k + 2) 29) := same_ok z0 (by omega)
  have z2 : S_same 2 (A (k + 3) 29) := same_ok z1 (by omega)
  have z3 : S_same 3 (A (k + 4) 29) := same_ok z2 (by omega)
  exact same_ok z3 (by omega)
theorem q31 (k : Nat) : S_lawBars (A (k + 1) 31) := lawBars_ok
theorem q32 (k : Nat) : S_lawSeen (A (k + 2) 32) := lawSeen_ok (q31 k)
theorem q33 (k : Nat) : S_lawCovers (A (k + 1) 33) := lawCovers_ok
theorem q34 (k : Nat) : S_lawUp (A (k + 2) 34) := lawUp_ok (q33 k)
theorem q35 (k : Nat) : S_lawClimb (A (k + 3) 35) := lawClimb_ok (q34 k)
theorem q36 (k : Nat) : S_right (A (k + 11) 36) := right_ok (q30 (k + 7)) (q32 (k + 8)) (q29 (k + 5)) (q34 (k + 8)) (q35 (k + 7)) (q23 (k + 1)) (q24 (k + 1)) (q18 k) (q19 k) (q20 (k + 1)) (q25 k)
theorem law_ok (ns : List Int) (hl : ns.length ≤ 63) : ∃ S', (lev fb cb 40).1 37 [.scr (ns.map D.int)] [] = .ok (.bl true) S' := law_run (q36 28) (q26 38) ns hl
end K77
theorem PySem.Challenge.cw_sightrows_k77_whole_arrivals_and_climbs_holds : PySem.Challenge.rw_sightrows_k77_whole_arrivals_and_climbs.Holds := by
  exact K77.holds fun ns hl _ => K77.law_ok ns hl
