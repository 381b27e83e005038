import PyProof.Rows.All
import Wide.All
import OpenK.AllK
import Wide.FinOn
import HandS.ForMost
import HandS.ForExc
import HandS.Walk
import HandS.Wide
import HandS.Deep
import HandS.IsInst
import HandS.Flow
import HandS.Defaults
import KE.KExcHand
import PyProof.ReprDict
import PyProof.ReprRoads
import HandS.Small
import HandS.Style
import HandS.EndBits
import HandS.HeadHook2
import HandS.HeadEnd
import HandS.Codes
import Lean
import HandS.Head0
import HandS.Head1
import HandS.Head2
import KE.KStateDown
import PySem.Challenge.RW_allranks_k02_names_judged
set_option Elab.async false
/-! DL1: plain data (D), who owns which node (Ow), what a value stands for (Rs, Rp), the state of a frame (Wst, Rst). -/
namespace DL
open PySem PySem.Spec PyProof.Rows L2

/-! ### data -/
inductive D where
  | non | bl (b : Bool) | int (i : Int) | str (s : Str)
  | lst (xs : List D) | tup (xs : List D)
  | dic (kvs : List (Key × D)) | dit (kvs : List (List Key × D))
  | obj (c : Str) (fs : List (Str × D))
  | exc (c : Str) (a : List D)
instance : Inhabited D := ⟨.non⟩
abbrev SetA := Addr → Prop

/-- scalars: nothing of the heap -/
def D.flat : D → Bool
  | .non => true | .bl _ => true | .int _ => true | .str _ => true
  | _ => false
def D.toV : D → V
  | .non => .non | .bl b => .bl b | .int i => .int i | .str s => .str s
  | _ => .non

/-- who may write: sh nobody; own: the holder, its children as c; ownK: the child at k as o, the rest as r says -/
inductive Ow where
  | sh | own (c : Ow) | ownK (k : Key) (o : Ow) (r : Ow)
  deriving DecidableEq
def Ow.child : Ow → Key → Ow
  | .sh, _ => .sh
  | .own c, _ => c
  | .ownK k o r, key => if key = k then o else r.child key
theorem Ow.child_lt : ∀ (o : Ow) (key : Key), o ≠ .sh → sizeOf (o.child key) < sizeOf o
  | .sh, _, h => absurd rfl h
  | .own c, _, _ => by simp [Ow.child]
  | .ownK k o r, key, _ => by
    unfold Ow.child
    split
    · simp; omega
    · cases r with
      | sh => simp [Ow.child]; omega
      | own c => have := Ow.child_lt (.own c) key (by simp); simp at *; omega
      | ownK k' o' r' => have := Ow.child_lt (.ownK k' o' r') key (by simp); simp at *; omega

/-- what stands at a for reading: lists and dicts may be locked by a walk -/
def Rx (H : Hp) (a : Addr) (u : HO) : Prop :=
  match u with
  | .lst _ => Rd H a u
  | .dK _ => Rd H a u
  | .dT _ => Rd H a u
  | _ => H a = some u
theorem Rx.same {H H' : Hp} {a : Addr} {u : HO} (s : ∀ o, H a = some o → H' a = some o) (r : Rx H a u) : Rx H' a u := by
  have rd : Rd H a u → Rd H' a u := fun r => by
    rcases r with r | ⟨o, r⟩
    · exact .inl (s _ r)
    · exact .inr ⟨o, s _ r⟩
  unfold Rx at r ⊢
  split at r <;> first | exact rd r | exact s _ r
theorem Rx.of {H : Hp} {a : Addr} {u : HO} (h : H a = some u) : Rx H a u := by
  unfold Rx
  split <;> first | exact .inl h | exact h
theorem Rx.there {H : Hp} {a : Addr} {u : HO} (r : Rx H a u) : ∃ o, H a = some o := by
  unfold Rx at r
  split at r <;> first | exact ⟨_, r⟩ | (rcases r with r | ⟨o, r⟩ <;> exact ⟨_, r⟩)
section
variable (cl : Str → Addr)
/-- v stands for d; every node is in F (nobody writes there) -/
inductive Rs (F : SetA) (H : Hp) : D → V → Prop where
  | non : Rs F H .non .non
  | bl (b : Bool) : Rs F H (.bl b) (.bl b)
  | int (i : Int) : Rs F H (.int i) (.int i)
  | str (s : Str) : Rs F H (.str s) (.str s)
  | lst {ds : List D} {a : Addr} {vs : List V} : F a → Rx H a (.lst vs) → ds.length = vs.length → (∀ (i : Nat) d v, ds[i]? = some d → vs[i]? = some v → Rs F H d v) → Rs F H (.lst ds) (.ref a)
  | tup {ds : List D} {a : Addr} {vs : List V} : F a → Rx H a (.tup vs) → ds.length = vs.length → (∀ (i : Nat) d v, ds[i]? = some d → vs[i]? = some v → Rs F H d v) → Rs F H (.tup ds) (.ref a)
  | dic {kvs : List (Key × D)} {a : Addr} {ws : List (Key × V)} : F a → Rx H a (.dK ws) → kvs.map (·.1) = ws.map (·.1) → (∀ (i : Nat) k d v, kvs[i]? = some (k, d) → ws[i]? = some (k, v) → Rs F H d v) → Rs F H (.dic kvs) (.ref a)
  | dit {kvs : List (List Key × D)} {a : Addr} {ws : List (List Key × V)} : F a → Rx H a (.dT ws) → kvs.map (·.1) = ws.map (·.1) → (∀ (i : Nat) k d v, kvs[i]? = some (k, d) → ws[i]? = some (k, v) → Rs F H d v) → Rs F H (.dit kvs) (.ref a)
  | obj {c : Str} {fs : List (Str × D)} {a dx : Addr} {ws : List (Str × V)} : F a → Rx H a (.ins (cl c) dx ws) → fs.map (·.1) = ws.map (·.1) → (∀ (i : Nat) k d v, fs[i]? = some (k, d) → ws[i]? = some (k, v) → Rs F H d v) → Rs F H (.obj c fs) (.ref a)

theorem Rs.mono {F F' : SetA} {H H' : Hp} (hF : ∀ a, F a → F' a) (hk : ∀ a u, F a → Rx H a u → Rx H' a u) {d : D} {v : V} (h : Rs cl F H d v) : Rs cl F' H' d v := by
  induction h with
  | non => exact .non
  | bl b => exact .bl b
  | int i => exact .int i
  | str s => exact .str s
  | lst f r l _ ih => exact .lst (hF _ f) (hk _ _ f r) l ih
  | tup f r l _ ih => exact .tup (hF _ f) (hk _ _ f r) l ih
  | dic f r l _ ih => exact .dic (hF _ f) (hk _ _ f r) l ih
  | dit f r l _ ih => exact .dit (hF _ f) (hk _ _ f r) l ih
  | obj f r l _ ih => exact .obj (hF _ f) (hk _ _ f r) l ih
theorem Rs.flat {F : SetA} {H : Hp} {d : D} {v : V} (h : Rs cl F H d v) (e : d.flat = true) : v = d.toV := by
  cases h <;> first | rfl | cases e
theorem Rs.of_flat {F : SetA} {H : Hp} {d : D} (e : d.flat = true) : Rs cl F H d d.toV := by
  cases d <;> first | exact .non | exact .bl _ | exact .int _ | exact .str _ | cases e

/-- the sets of a node's children: apart, without the node, together with it fp -/
structure Fam (a : Addr) (n : Nat) (fs : Nat → SetA) (fp : SetA) : Prop where
  lt : ∀ i x, fs i x → i < n ∧ x ≠ a
  dj : ∀ i j x, fs i x → fs j x → i = j
  iff : ∀ x, fp x ↔ x = a ∨ ∃ i, fs i x

/-- a node that its holder may write, its children as ch says -/
def Nd (F : SetA) (H : Hp) (ch : Key → D → V → SetA → Prop) (d : D) (v : V) (fp : SetA) : Prop :=
  match d with
  | .lst ds => ∃ (a : Addr) (vs : List V) (fs : Nat → SetA), v = .ref a ∧ H a = some (.lst vs) ∧ ds.length = vs.length ∧
      (∀ (i : Nat) d v, ds[i]? = some d → vs[i]? = some v → ch (.inl 0) d v (fs i)) ∧ Fam a ds.length fs fp
  | .dic kvs => ∃ (a : Addr) (ws : List (Key × V)) (fs : Nat → SetA), v = .ref a ∧ H a = some (.dK ws) ∧ ((kvs.map (·.1)).Nodup ∧ kvs.map (·.1) = ws.map (·.1)) ∧
      (∀ (i : Nat) k d v, kvs[i]? = some (k, d) → ws[i]? = some (k, v) → ch k d v (fs i)) ∧ Fam a kvs.length fs fp
  | .dit kvs => ∃ (a : Addr) (ws : List (List Key × V)) (fs : Nat → SetA), v = .ref a ∧ H a = some (.dT ws) ∧ ((kvs.map (·.1)).Nodup ∧ kvs.map (·.1) = ws.map (·.1)) ∧
      (∀ (i : Nat) k d v, kvs[i]? = some (k, d) → ws[i]? = some (k, v) → ch (.inl 0) d v (fs i)) ∧ Fam a kvs.length fs fp
  | .obj c xs => ∃ (a dx : Addr) (ws : List (Str × V)) (fs : Nat → SetA), v = .ref a ∧ H a = some (.ins (cl c) dx ws) ∧ xs.map (·.1) = ws.map (·.1) ∧
      (∀ (i : Nat) k d v, xs[i]? = some (k, d) → ws[i]? = some (k, v) → ch (.inr k) d v (fs i)) ∧ Fam a xs.length fs fp
  | _ => Rs cl F H d v ∧ ∀ x, ¬ fp x
theorem Nd.imp {F F' : SetA} {H H' : Hp} {ch ch' : Key → D → V → SetA → Prop} {d : D} {v : V} {fp : SetA} (h : Nd cl F H ch d v fp) (hR : ∀ d v, Rs cl F H d v → Rs cl F' H' d v) (hk : ∀ a u, fp a → H a = some u → H' a = some u)
    (hc : ∀ k d v f, (∀ x, f x → fp x) → ch k d v f → ch' k d v f) : Nd cl F' H' ch' d v fp := by
  cases d with
  | lst ds =>
    obtain ⟨a, vs, fs, e, ha, l, c, f⟩ := h
    exact ⟨a, vs, fs, e, hk _ _ ((f.iff a).mpr (.inl rfl)) ha, l, fun i d v h1 h2 => hc _ _ _ _ (fun x hx => (f.iff x).mpr (.inr ⟨i, hx⟩)) (c i d v h1 h2), f⟩
  | dic ds =>
    obtain ⟨a, vs, fs, e, ha, l, c, f⟩ := h
    exact ⟨a, vs, fs, e, hk _ _ ((f.iff a).mpr (.inl rfl)) ha, l, fun i k d v h1 h2 => hc _ _ _ _ (fun x hx => (f.iff x).mpr (.inr ⟨i, hx⟩)) (c i k d v h1 h2), f⟩
  | dit ds =>
    obtain ⟨a, vs, fs, e, ha, l, c, f⟩ := h
    exact ⟨a, vs, fs, e, hk _ _ ((f.iff a).mpr (.inl rfl)) ha, l, fun i k d v h1 h2 => hc _ _ _ _ (fun x hx => (f.iff x).mpr (.inr ⟨i, hx⟩)) (c i k d v h1 h2), f⟩
  | obj cc ds =>
    obtain ⟨a, dx, vs, fs, e, ha, l, c, f⟩ := h
    exact ⟨a, dx, vs, fs, e, hk _ _ ((f.iff a).mpr (.inl rfl)) ha, l, fun i k d v h1 h2 => hc _ _ _ _ (fun x hx => (f.iff x).mpr (.inr ⟨i, hx⟩)) (c i k d v h1 h2), f⟩
  | non => exact ⟨hR _ _ h.1, h.2⟩
  | bl => exact ⟨hR _ _ h.1, h.2⟩
  | int => exact ⟨hR _ _ h.1, h.2⟩
  | str => exact ⟨hR _ _ h.1, h.2⟩
  | tup => exact ⟨hR _ _ h.1, h.2⟩
  | exc => exact ⟨hR _ _ h.1, h.2⟩

/-- v stands for d, held as o says; fp: the nodes that the holder may write -/
def Rp (F : SetA) (H : Hp) : Ow → D → V → SetA → Prop
  | .sh, d, v, fp => Rs cl F H d v ∧ ∀ x, ¬ fp x
  | .own c, d, v, fp => Nd cl F H (fun _ d v f => Rp F H c d v f) d v fp
  | .ownK k o r, d, v, fp => Nd cl F H (fun key d v f => Rp F H ((Ow.ownK k o r).child key) d v f) d v fp
termination_by o => sizeOf o
decreasing_by
  · simp
  · exact Ow.child_lt _ _ (by simp)
theorem Rp.sh_iff {F : SetA} {H : Hp} {d : D} {v : V} {fp : SetA} : Rp cl F H .sh d v fp ↔ Rs cl F H d v ∧ ∀ x, ¬ fp x := by
  rw [Rp]
theorem Rp.nd_iff {F : SetA} {H : Hp} {o : Ow} (ho : o ≠ .sh) {d : D} {v : V} {fp : SetA} : Rp cl F H o d v fp ↔ Nd cl F H (fun key => Rp cl F H (o.child key)) d v fp := by
  cases o with
  | sh => exact absurd rfl ho
  | own c => rw [Rp]; rfl
  | ownK k o r => rw [Rp]
theorem Rp.mono {F F' : SetA} {H H' : Hp} (hF : ∀ a, F a → F' a) (hk : ∀ a u, F a → Rx H a u → Rx H' a u) : ∀ (o : Ow) {d : D} {v : V} {fp : SetA}, (∀ a u, fp a → H a = some u → H' a = some u) → Rp cl F H o d v fp → Rp cl F' H' o d v fp
  | .sh, d, v, fp, _, h => (Rp.sh_iff cl).mpr ⟨((Rp.sh_iff cl).mp h).1.mono cl hF hk, ((Rp.sh_iff cl).mp h).2⟩
  | .own c, d, v, fp, hfp, h => (Rp.nd_iff cl (by simp)).mpr (((Rp.nd_iff cl (by simp)).mp h).imp cl (fun _ _ q => q.mono cl hF hk) hfp fun k _ _ _ hs q => Rp.mono hF hk ((Ow.own c).child k) (fun a u ha => hfp a u (hs a ha)) q)
  | .ownK k o r, d, v, fp, hfp, h => (Rp.nd_iff cl (by simp)).mpr (((Rp.nd_iff cl (by simp)).mp h).imp cl (fun _ _ q => q.mono cl hF hk) hfp fun key _ _ _ hs q => Rp.mono hF hk ((Ow.ownK k o r).child key) (fun a u ha => hfp a u (hs a ha)) q)
termination_by o => sizeOf o
decreasing_by
  · exact Ow.child_lt _ _ (by simp)
  · exact Ow.child_lt _ _ (by simp)
theorem Rs.tracked {F : SetA} {H : Hp} {d : D} {a : Addr} (h : Rs cl F H d (.ref a)) : F a ∧ ∃ o, H a = some o := by
  cases h with
  | lst f r => exact ⟨f, r.there⟩
  | tup f r => exact ⟨f, r.there⟩
  | dic f r => exact ⟨f, r.there⟩
  | dit f r => exact ⟨f, r.there⟩
  | obj f r => exact ⟨f, r.there⟩
theorem keyAt {κ α β : Type} {kvs : List (κ × α)} {ws : List (κ × β)} (e : kvs.map (·.1) = ws.map (·.1)) {i : Nat} (h : i < kvs.length) : ∃ k d v, kvs[i]? = some (k, d) ∧ ws[i]? = some (k, v) := by
  have hl : kvs.length = ws.length := by rw [← List.length_map (·.1), e, List.length_map]
  have q := congrArg (fun z => z[i]?) e
  simp only [List.getElem?_map, List.getElem?_eq_getElem h, List.getElem?_eq_getElem (show i < ws.length by omega), Option.map_some, Option.some.injEq] at q
  exact ⟨kvs[i].1, kvs[i].2, ws[i].2, List.getElem?_eq_getElem h, by rw [q]; exact List.getElem?_eq_getElem _⟩
theorem Nd.there {F : SetA} {H : Hp} {ch : Key → D → V → SetA → Prop} {d : D} {v : V} {fp : SetA} (h : Nd cl F H ch d v fp) (hc : ∀ k d v f, ch k d v f → ∀ x, f x → ∃ u, H x = some u) : ∀ x, fp x → ∃ u, H x = some u := by
  intro x hx
  cases d with
  | lst ds =>
    obtain ⟨a, vs, fs, _, ha, l, c, f⟩ := h
    rcases (f.iff x).mp hx with rfl | ⟨i, hi⟩
    · exact ⟨_, ha⟩
    · have h1 := (f.lt i x hi).1
      exact hc _ _ _ _ (c i _ _ (List.getElem?_eq_getElem h1) (List.getElem?_eq_getElem (show i < vs.length by omega))) x hi
  | dic ds =>
    obtain ⟨a, vs, fs, _, ha, l, c, f⟩ := h
    rcases (f.iff x).mp hx with rfl | ⟨i, hi⟩
    · exact ⟨_, ha⟩
    · obtain ⟨k, d, v, h1, h2⟩ := keyAt l.2 (f.lt i x hi).1
      exact hc _ _ _ _ (c i k d v h1 h2) x hi
  | dit ds =>
    obtain ⟨a, vs, fs, _, ha, l, c, f⟩ := h
    rcases (f.iff x).mp hx with rfl | ⟨i, hi⟩
    · exact ⟨_, ha⟩
    · obtain ⟨k, d, v, h1, h2⟩ := keyAt l.2 (f.lt i x hi).1
      exact hc _ _ _ _ (c i k d v h1 h2) x hi
  | obj cc ds =>
    obtain ⟨a, dx, vs, fs, _, ha, l, c, f⟩ := h
    rcases (f.iff x).mp hx with rfl | ⟨i, hi⟩
    · exact ⟨_, ha⟩
    · obtain ⟨k, d, v, h1, h2⟩ := keyAt l (f.lt i x hi).1
      exact hc _ _ _ _ (c i k d v h1 h2) x hi
  | non => exact absurd hx (h.2 x)
  | bl => exact absurd hx (h.2 x)
  | int => exact absurd hx (h.2 x)
  | str => exact absurd hx (h.2 x)
  | tup => exact absurd hx (h.2 x)
  | exc => exact absurd hx (h.2 x)
/-- what a holder may write is there -/
theorem Rp.there {F : SetA} {H : Hp} : ∀ (o : Ow) {d : D} {v : V} {fp : SetA}, Rp cl F H o d v fp → ∀ x, fp x → ∃ u, H x = some u
  | .sh, d, v, fp, h, x, hx => absurd hx (((Rp.sh_iff cl).mp h).2 x)
  | .own c, d, v, fp, h, x, hx => ((Rp.nd_iff cl (by simp)).mp h).there cl (fun k _ _ _ q => Rp.there ((Ow.own c).child k) q) x hx
  | .ownK k o r, d, v, fp, h, x, hx => ((Rp.nd_iff cl (by simp)).mp h).there cl (fun key _ _ _ q => Rp.there ((Ow.ownK k o r).child key) q) x hx
termination_by o => sizeOf o
decreasing_by
  all_goals exact Ow.child_lt _ _ (by simp)
theorem Nd.freeze {cl : Str → Addr} {F F' : SetA} {H : Hp} {ch : Key → D → V → SetA → Prop} {d : D} {v : V} {fp : SetA} (h : Nd cl F H ch d v fp) (hF : ∀ a, F a → F' a) (hf : ∀ x, fp x → F' x)
    (hc : ∀ k d v f, (∀ x, f x → fp x) → ch k d v f → Rs cl F' H d v) : Rs cl F' H d v := by
  cases d with
  | lst ds =>
    obtain ⟨a, vs, fs, rfl, ha, l, c, f⟩ := h
    exact .lst (hf _ ((f.iff a).mpr (.inl rfl))) (Rx.of ha) l fun i d v h1 h2 => hc _ _ _ _ (fun x hx => (f.iff x).mpr (.inr ⟨i, hx⟩)) (c i d v h1 h2)
  | dic ds =>
    obtain ⟨a, vs, fs, rfl, ha, l, c, f⟩ := h
    exact .dic (hf _ ((f.iff a).mpr (.inl rfl))) (Rx.of ha) l.2 fun i k d v h1 h2 => hc _ _ _ _ (fun x hx => (f.iff x).mpr (.inr ⟨i, hx⟩)) (c i k d v h1 h2)
  | dit ds =>
    obtain ⟨a, vs, fs, rfl, ha, l, c, f⟩ := h
    exact .dit (hf _ ((f.iff a).mpr (.inl rfl))) (Rx.of ha) l.2 fun i k d v h1 h2 => hc _ _ _ _ (fun x hx => (f.iff x).mpr (.inr ⟨i, hx⟩)) (c i k d v h1 h2)
  | obj cc ds =>
    obtain ⟨a, dx, vs, fs, rfl, ha, l, c, f⟩ := h
    exact .obj (hf _ ((f.iff a).mpr (.inl rfl))) (Rx.of ha) l fun i k d v h1 h2 => hc _ _ _ _ (fun x hx => (f.iff x).mpr (.inr ⟨i, hx⟩)) (c i k d v h1 h2)
  | non => exact h.1.mono cl hF fun _ _ _ r => r
  | bl => exact h.1.mono cl hF fun _ _ _ r => r
  | int => exact h.1.mono cl hF fun _ _ _ r => r
  | str => exact h.1.mono cl hF fun _ _ _ r => r
  | tup => exact h.1.mono cl hF fun _ _ _ r => r
  | exc => exact h.1.mono cl hF fun _ _ _ r => r
/-- a holder's value, as one that nobody may write any more -/
theorem Rp.freeze {F F' : SetA} {H : Hp} (hF : ∀ a, F a → F' a) : ∀ (o : Ow) {d : D} {v : V} {fp : SetA}, (∀ x, fp x → F' x) → Rp cl F H o d v fp → Rs cl F' H d v
  | .sh, d, v, fp, _, h => ((Rp.sh_iff cl).mp h).1.mono cl hF fun _ _ _ r => r
  | .own c, d, v, fp, hf, h => ((Rp.nd_iff cl (by simp)).mp h).freeze hF hf fun k _ _ _ hs q => Rp.freeze hF ((Ow.own c).child k) (fun x hx => hf x (hs x hx)) q
  | .ownK k o r, d, v, fp, hf, h => ((Rp.nd_iff cl (by simp)).mp h).freeze hF hf fun key _ _ _ hs q => Rp.freeze hF ((Ow.ownK k o r).child key) (fun x hx => hf x (hs x hx)) q
termination_by o => sizeOf o
decreasing_by
  all_goals exact Ow.child_lt _ _ (by simp)
end

/-! ### the state: cells (a value, its data, how it is held) over a heap -/
abbrev Cell := V × D × Ow
/-- the heap at the entry, what nobody might write there, what this frame may write of it -/
structure Bs where
  H0 : Hp
  F0 : SetA
  IO : SetA
structure Wst {ι : Type} (cl : Str → Addr) (b : Bs) (H : Hp) (cs : ι → Option Cell) (F : SetA) (fs : ι → SetA) : Prop where
  rp : ∀ (i : ι) (v : V) (d : D) (o : Ow), cs i = some (v, d, o) → Rp cl F H o d v (fs i)
  occ : ∀ i x, fs i x → ∃ c, cs i = some c
  dj : ∀ i j x, fs i x → fs j x → i = j
  df : ∀ i x, fs i x → ¬ F x
  aF : ∀ x, F x → ∃ o, H x = some o
  keep : ∀ a o, b.H0 a = some o → ¬ b.IO a → H a = some o
  F0 : ∀ a, b.F0 a → F a
  Fn : ∀ a, F a → b.F0 a ∨ b.IO a ∨ b.H0 a = none
  fn : ∀ i x, fs i x → b.IO x ∨ b.H0 x = none
  iof : ∀ x, b.IO x → ¬ b.F0 x
section
variable {cl : Str → Addr} {b : Bs} {H H' : Hp} {ι : Type} {cs cs' : ι → Option Cell} {F F' : SetA} {fs fs' : ι → SetA}
theorem Wst.there (W : Wst cl b H cs F fs) {i : ι} {x : Addr} (h : fs i x) : ∃ o, H x = some o := by
  obtain ⟨⟨v, d, o⟩, e⟩ := W.occ i x h
  exact Rp.there cl o (W.rp i v d o e) x h
/-- THE STEP: the cells of J change (or go), what they held may be written; all else stays -/
theorem Wst.step (W : Wst cl b H cs F fs) (J : ι → Prop) (hH : ∀ a o, H a = some o → (∀ j, J j → ¬ fs j a) → H' a = some o) (hF : ∀ a, F a → F' a)
    (hFn : ∀ a, F' a → F a ∨ (∃ j, J j ∧ fs j a) ∨ H a = none) (hFt : ∀ a, F' a → ∃ o, H' a = some o)
    (hc : ∀ i c, ¬ J i → cs' i = some c → cs i = some c) (ho : ∀ i x, ¬ J i → fs i x → ∃ c, cs' i = some c) (hs : ∀ i, ¬ J i → fs' i = fs i)
    (hr : ∀ i v d o, J i → cs' i = some (v, d, o) → Rp cl F' H' o d v (fs' i))
    (hf : ∀ i x, J i → fs' i x → (∃ c, cs' i = some c) ∧ ((∃ j, J j ∧ fs j x) ∨ H x = none) ∧ ¬ F' x)
    (hd : ∀ i j x, J i → J j → fs' i x → fs' j x → i = j) : Wst cl b H' cs' F' fs' := by
  have old : ∀ {i : ι} {x : Addr}, ¬ J i → fs i x → ∀ j, J j → ¬ fs j x := fun {i x} hi hx j hj hjx => hi (W.dj i j x hx hjx ▸ hj)
  have kF : ∀ a u, F a → Rx H a u → Rx H' a u := fun a u ha r => Rx.same (fun o e => hH a o e fun j _ hj => W.df j a hj ha) r
  refine ⟨fun i v d o e => ?_, fun i x hx => ?_, fun i j x hi hj => ?_, fun i x hx => ?_, hFt, fun a o e hio => ?_, fun a h => hF a (W.F0 a h), fun a h => ?_, fun i x hx => ?_, W.iof⟩
  · by_cases hi : J i
    · exact hr i v d o hi e
    · rw [hs i hi]
      exact Rp.mono cl hF kF o (fun a u ha e' => hH a u e' (old hi ha)) (W.rp i v d o (hc i _ hi e))
  · by_cases hi : J i
    · exact (hf i x hi hx).1
    · rw [hs i hi] at hx
      exact ho i x hi hx
  · by_cases h1 : J i <;> by_cases h2 : J j
    · exact hd i j x h1 h2 hi hj
    · rw [hs j h2] at hj
      rcases (hf i x h1 hi).2.1 with ⟨k, hk, q⟩ | q
      · exact absurd q (old h2 hj k hk)
      · obtain ⟨_, e⟩ := W.there hj
        rw [q] at e; cases e
    · rw [hs i h1] at hi
      rcases (hf j x h2 hj).2.1 with ⟨k, hk, q⟩ | q
      · exact absurd q (old h1 hi k hk)
      · obtain ⟨_, e⟩ := W.there hi
        rw [q] at e; cases e
    · rw [hs i h1] at hi
      rw [hs j h2] at hj
      exact W.dj i j x hi hj
  · by_cases hi : J i
    · exact (hf i x hi hx).2.2
    · rw [hs i hi] at hx
      intro hF'
      rcases hFn x hF' with q | ⟨j, hj, q⟩ | q
      · exact W.df i x hx q
      · exact old hi hx j hj q
      · obtain ⟨_, e⟩ := W.there hx
        rw [q] at e; cases e
  · refine hH a o (W.keep a o e hio) fun j _ q => ?_
    rcases W.fn j a q with z | z
    · exact hio z
    · rw [e] at z; cases z
  · rcases hFn a h with q | ⟨j, _, q⟩ | q
    · exact W.Fn a q
    · rcases W.fn j a q with z | z
      · exact .inr (.inl z)
      · exact .inr (.inr z)
    · by_cases hio : b.IO a
      · exact .inr (.inl hio)
      · refine .inr (.inr ?_)
        cases e : b.H0 a with
        | none => rfl
        | some o => rw [W.keep a o e hio] at q; cases q
  · by_cases hi : J i
    · rcases (hf i x hi hx).2.1 with ⟨j, _, q⟩ | q
      · exact W.fn j x q
      · by_cases hio : b.IO x
        · exact .inl hio
        · refine .inr ?_
          cases e : b.H0 x with
          | none => rfl
          | some o => rw [W.keep x o e hio] at q; cases q
    · rw [hs i hi] at hx
      exact W.fn i x hx
/-- only new objects -/
theorem Wst.ext (W : Wst cl b H cs F fs) (h : ∀ a o, H a = some o → H' a = some o) : Wst cl b H' cs F fs :=
  W.step (fun _ => False) (fun a o e _ => h a o e) (fun _ h => h) (fun _ h => .inl h) (fun a ha => let ⟨o, e⟩ := W.aF a ha; ⟨o, h a o e⟩) (fun _ _ _ e => e) (fun i x _ hx => W.occ i x hx) (fun _ _ => rfl) (fun _ _ _ _ z => z.elim) (fun _ _ z => z.elim) fun _ _ _ z => z.elim
/-- the i-th cell's value, for reading -/
theorem Wst.read (W : Wst cl b H cs F fs) {i : ι} {v : V} {d : D} {o : Ow} (e : cs i = some (v, d, o)) : Rs cl (fun _ => True) H d v :=
  Rp.freeze cl (F := F) (fun _ _ => trivial) o (fun _ _ => trivial) (W.rp i v d o e)
theorem Wst.sh (W : Wst cl b H cs F fs) {i : ι} {v : V} {d : D} (e : cs i = some (v, d, .sh)) : Rs cl F H d v := ((Rp.sh_iff cl).mp (W.rp i v d .sh e)).1
end

/-! ### a frame's state: the slots, the things at hand -/
abbrev DEnv := List (Option (D × Ow))
def cells (S : List (Option Cell)) (ts : List Cell) : Sum Nat Nat → Option Cell
  | .inl i => (S[i]?).join
  | .inr j => ts[j]?
def ofCell (c : Cell) : D × Ow := (c.2.1, c.2.2)
structure Slots (σ : L2.St) (ρ : DEnv) (S : List (Option Cell)) : Prop where
  len : S.length = σ.length
  env : ρ = S.map (Option.map ofCell)
  at_ : ∀ (i : Nat) (c : Cell), S[i]? = some (some c) → σ[i]? = some (some c.1)
def Rst (cl : Str → Addr) (b : Bs) (σ : L2.St) (H : Hp) (ρ : DEnv) (ts : List Cell) : Prop :=
  ∃ S F fs, Slots σ ρ S ∧ Wst cl b H (cells S ts) F fs
section
variable {cl : Str → Addr} {b : Bs} {σ : L2.St} {H H' : Hp} {ρ : DEnv} {ts us : List Cell} {S : List (Option Cell)}
theorem Slots.get (s : Slots σ ρ S) {i : Nat} {d : D} {o : Ow} (h : ρ[i]? = some (some (d, o))) : ∃ v, S[i]? = some (some (v, d, o)) ∧ σ[i]? = some (some v) := by
  rw [s.env, List.getElem?_map] at h
  cases e : S[i]? with
  | none => rw [e] at h; cases h
  | some c =>
    rw [e] at h
    cases c with
    | none => cases h
    | some c =>
      obtain ⟨v, d', o'⟩ := c
      have q : (d', o') = (d, o) := Option.some.inj (Option.some.inj h)
      cases q
      exact ⟨v, rfl, s.at_ i _ e⟩
theorem Slots.set (s : Slots σ ρ S) (i : Nat) (c : Cell) : Slots (σ.set i (some c.1)) (ρ.set i (some (ofCell c))) (S.set i (some c)) := by
  refine ⟨by simp [s.len], by rw [s.env, List.map_set]; rfl, fun j c' e => ?_⟩
  by_cases h : i = j
  · subst h
    by_cases hl : i < S.length
    · rw [List.getElem?_set_self hl] at e
      cases e
      rw [List.getElem?_set_self (by rw [← s.len]; exact hl)]
    · rw [List.getElem?_eq_none (by simpa using hl)] at e; cases e
  · rw [List.getElem?_set_ne h] at e ⊢
    exact s.at_ j c' e
/-- a slot's data, held otherwise -/
theorem Slots.put (s : Slots σ ρ S) {i : Nat} {v : V} {d : D} {o : Ow} (e : S[i]? = some (some (v, d, o))) (d' : D) (o' : Ow) : Slots σ (ρ.set i (some (d', o'))) (S.set i (some (v, d', o'))) := by
  have q := s.set i (v, d', o')
  have z : σ.set i (some v) = σ := by
    apply List.ext_getElem?
    intro j
    by_cases h : i = j
    · subst h
      have a := s.at_ i _ e
      rw [List.getElem?_set_self (List.getElem?_eq_some_iff.mp a).1, a]
    · rw [List.getElem?_set_ne h]
  rw [z] at q
  exact q
theorem Slots.forget (s : Slots σ ρ S) (i : Nat) : Slots σ (ρ.set i none) (S.set i none) := by
  refine ⟨by simp [s.len], by rw [s.env, List.map_set]; rfl, fun j c' e => ?_⟩
  by_cases h : i = j
  · subst h
    by_cases hl : i < S.length
    · rw [List.getElem?_set_self hl] at e; cases e
    · rw [List.getElem?_eq_none (by simpa using hl)] at e; cases e
  · rw [List.getElem?_set_ne h] at e
    exact s.at_ j c' e
theorem cells_set {i : Nat} {c : Option Cell} (hi : i < S.length) (p : Sum Nat Nat) : cells (S.set i c) ts p = if p = .inl i then c else cells S ts p := by
  cases p with
  | inr j => rw [if_neg (by intro h; cases h)]; rfl
  | inl j =>
    by_cases h : j = i
    · subst h
      rw [if_pos rfl]
      show ((S.set j c)[j]?).join = c
      rw [List.getElem?_set_self hi]; rfl
    · rw [if_neg (by intro q; exact h (Sum.inl.inj q))]
      show ((S.set i c)[j]?).join = (S[j]?).join
      rw [List.getElem?_set_ne (Ne.symm h)]
theorem cells_at {i : Nat} {c : Cell} (e : S[i]? = some (some c)) : cells S ts (.inl i) = some c := by
  show (S[i]?).join = _
  rw [e]; rfl
/-- only new objects -/
theorem Rst.ext (R : Rst cl b σ H ρ ts) (h : ∀ a o, H a = some o → H' a = some o) : Rst cl b σ H' ρ ts :=
  let ⟨S, F, fs, s, W⟩ := R
  ⟨S, F, fs, s, W.ext h⟩
/-- what the slots of J0 and the things at hand from n on hold -/
def Held (fs : Sum Nat Nat → SetA) (J0 : Nat → Prop) (n : Nat) : SetA := fun x => (∃ i, J0 i ∧ fs (.inl i) x) ∨ ∃ j, n ≤ j ∧ fs (.inr j) x
/-- the slots of J0 and the last things at hand change -/
theorem Wst.turn {S' : List (Option Cell)} {us' : List Cell} {F F' : SetA} {fs : Sum Nat Nat → SetA} (W : Wst cl b H (cells S (ts ++ us)) F fs) (J0 : Nat → Prop) (g : Sum Nat Nat → SetA) (hS : ∀ i, ¬ J0 i → S'[i]? = S[i]?)
    (hH : ∀ a o, H a = some o → ¬ Held fs J0 ts.length a → H' a = some o) (hF : ∀ a, F a → F' a) (hFn : ∀ a, F' a → F a ∨ Held fs J0 ts.length a ∨ H a = none) (hFt : ∀ a, F' a → ∃ o, H' a = some o)
    (hr0 : ∀ i v d o, J0 i → S'[i]? = some (some (v, d, o)) → Rp cl F' H' o d v (g (.inl i)))
    (hr1 : ∀ k v d o, us'[k]? = some (v, d, o) → Rp cl F' H' o d v (g (.inr k)))
    (hg0 : ∀ i x, g (.inl i) x → ∃ c, S'[i]? = some (some c)) (hg1 : ∀ k x, g (.inr k) x → k < us'.length)
    (hg : ∀ p x, g p x → (Held fs J0 ts.length x ∨ H x = none) ∧ ¬ F' x) (hgd : ∀ p q x, g p x → g q x → p = q) :
    ∃ fs', Wst cl b H' (cells S' (ts ++ us')) F' fs' := by
  let J : Sum Nat Nat → Prop := fun p => match p with
    | .inl i => J0 i
    | .inr j => ts.length ≤ j
  have old : ∀ x, Held fs J0 ts.length x ↔ ∃ p, J p ∧ fs p x := fun x => ⟨fun h => by
    rcases h with ⟨i, h1, h2⟩ | ⟨j, h1, h2⟩
    · exact ⟨.inl i, h1, h2⟩
    · exact ⟨.inr j, h1, h2⟩, fun ⟨p, h1, h2⟩ => by
    cases p with
    | inl i => exact .inl ⟨i, h1, h2⟩
    | inr j => exact .inr ⟨j, h1, h2⟩⟩
  classical
  refine ⟨fun p => match p with
    | .inl i => if J0 i then g (.inl i) else fs (.inl i)
    | .inr j => if ts.length ≤ j then g (.inr (j - ts.length)) else fs (.inr j), W.step J (fun a o e h => hH a o e fun q => let ⟨p, h1, h2⟩ := (old a).mp q; h p h1 h2) hF
    (fun a h => by rcases hFn a h with q | q | q; exact .inl q; exact .inr (.inl ((old a).mp q)); exact .inr (.inr q)) hFt (fun p c hp e => ?_) (fun p x hp hx => ?_) (fun p hp => ?_) (fun p v d o hp e => ?_) (fun p x hp hx => ?_) (fun p q x hp hq h1 h2 => ?_)⟩
  · cases p with
    | inl i =>
      have e' : (S'[i]?).join = some c := e
      rw [hS i hp] at e'
      exact e'
    | inr j =>
      have hj : j < ts.length := Nat.lt_of_not_le hp
      have e' : (ts ++ us')[j]? = some c := e
      rw [List.getElem?_append_left hj] at e'
      show (ts ++ us)[j]? = some c
      rw [List.getElem?_append_left hj]
      exact e'
  · obtain ⟨c, e⟩ := W.occ p x hx
    cases p with
    | inl i =>
      refine ⟨c, ?_⟩
      show (S'[i]?).join = some c
      rw [hS i hp]
      exact e
    | inr j =>
      have hj : j < ts.length := Nat.lt_of_not_le hp
      have e' : (ts ++ us)[j]? = some c := e
      rw [List.getElem?_append_left hj] at e'
      refine ⟨c, ?_⟩
      show (ts ++ us')[j]? = some c
      rw [List.getElem?_append_left hj]
      exact e'
  · cases p with
    | inl i => exact if_neg hp
    | inr j => exact if_neg hp
  · cases p with
    | inl i =>
      have e' : (S'[i]?).join = some (v, d, o) := e
      have e2 : S'[i]? = some (some (v, d, o)) := by
        cases q : S'[i]? with
        | none => rw [q] at e'; cases e'
        | some z => rw [q] at e'; exact congrArg some e'
      show Rp cl F' H' o d v (if J0 i then g (.inl i) else fs (.inl i))
      rw [if_pos (show J0 i from hp)]
      exact hr0 i v d o hp e2
    | inr j =>
      have hj : ts.length ≤ j := hp
      have e' : (ts ++ us')[j]? = some (v, d, o) := e
      rw [List.getElem?_append_right hj] at e'
      show Rp cl F' H' o d v (if ts.length ≤ j then g (.inr (j - ts.length)) else fs (.inr j))
      rw [if_pos hj]
      exact hr1 _ v d o e'
  · cases p with
    | inl i =>
      have hx' : (if J0 i then g (.inl i) else fs (.inl i)) x := hx
      rw [if_pos (show J0 i from hp)] at hx'
      obtain ⟨h1, h2⟩ := hg _ x hx'
      obtain ⟨c, e⟩ := hg0 i x hx'
      refine ⟨⟨c, ?_⟩, by rcases h1 with q | q; exact .inl ((old x).mp q); exact .inr q, h2⟩
      show (S'[i]?).join = some c
      rw [e]; rfl
    | inr j =>
      have hj : ts.length ≤ j := hp
      have hx' : (if ts.length ≤ j then g (.inr (j - ts.length)) else fs (.inr j)) x := hx
      rw [if_pos hj] at hx'
      obtain ⟨h1, h2⟩ := hg _ x hx'
      have l := hg1 _ x hx'
      refine ⟨⟨us'[j - ts.length], ?_⟩, by rcases h1 with q | q; exact .inl ((old x).mp q); exact .inr q, h2⟩
      show (ts ++ us')[j]? = _
      rw [List.getElem?_append_right hj, List.getElem?_eq_getElem l]
  · have norm : ∀ (p : Sum Nat Nat), J p → ∀ x, (match p with
      | .inl i => if J0 i then g (.inl i) else fs (.inl i)
      | .inr j => if ts.length ≤ j then g (.inr (j - ts.length)) else fs (.inr j)) x → g (match p with | .inl i => .inl i | .inr j => .inr (j - ts.length)) x := by
      intro p hp x h
      cases p with
      | inl i =>
        have h' : (if J0 i then g (.inl i) else fs (.inl i)) x := h
        rw [if_pos (show J0 i from hp)] at h'
        exact h'
      | inr j =>
        have h' : (if ts.length ≤ j then g (.inr (j - ts.length)) else fs (.inr j)) x := h
        rw [if_pos (show ts.length ≤ j from hp)] at h'
        exact h'
    have e := hgd _ _ x (norm p hp x h1) (norm q hq x h2)
    cases p with
    | inl i =>
      cases q with
      | inl i' => exact e
      | inr j => cases e
    | inr j =>
      cases q with
      | inl i' => cases e
      | inr j' =>
        have a : ts.length ≤ j := hp
        have b' : ts.length ≤ j' := hq
        have e' : j - ts.length = j' - ts.length := Sum.inr.inj e
        exact congrArg Sum.inr (by omega)
abbrev noJ : Nat → Prop := fun _ => False
abbrev noG : Sum Nat Nat → SetA := fun _ _ => False
/-- the last things at hand are let go -/
theorem Rst.drop (R : Rst cl b σ H ρ (ts ++ us)) : Rst cl b σ H ρ ts := by
  obtain ⟨S, F, fs, s, W⟩ := R
  obtain ⟨fs', W'⟩ := W.turn (S' := S) (us' := []) (H' := H) (F' := F) noJ noG (fun _ _ => rfl) (fun _ _ e _ => e) (fun _ h => h) (fun _ h => .inl h) W.aF (fun _ _ _ _ z => z.elim) (fun _ _ _ _ e => by simp at e) (fun _ _ z => z.elim) (fun _ _ z => z.elim) (fun _ _ z => z.elim) fun _ _ _ z => z.elim
  rw [List.append_nil] at W'
  exact ⟨S, F, fs', s, W'⟩
/-- what is at hand gives way to what nobody may write -/
theorem Rst.giveSh (R : Rst cl b σ H ρ (ts ++ us)) (us' : List (V × D)) (h : ∀ S F fs, Slots σ ρ S → Wst cl b H (cells S (ts ++ us)) F fs → ∀ p ∈ us', Rs cl F H p.2 p.1) : Rst cl b σ H ρ (ts ++ us'.map fun p => (p.1, p.2, .sh)) := by
  obtain ⟨S, F, fs, s, W⟩ := R
  have key : ∀ (k : Nat) (v : V) (d : D) (o : Ow), (us'.map fun p => (p.1, p.2, Ow.sh))[k]? = some (v, d, o) → Rp cl F H o d v (noG (.inr k)) := fun k v d o e => by
    rw [List.getElem?_map] at e
    cases q : us'[k]? with
    | none => rw [q] at e; cases e
    | some p =>
      rw [q] at e
      cases e
      exact (Rp.sh_iff cl).mpr ⟨h S F fs s W p (List.mem_of_getElem? q), fun _ z => z⟩
  obtain ⟨fs', W'⟩ := W.turn (S' := S) (us' := us'.map fun p => (p.1, p.2, .sh)) (H' := H) (F' := F) noJ noG (fun _ _ => rfl) (fun _ _ e _ => e) (fun _ h => h) (fun _ h => .inl h) W.aF (fun _ _ _ _ z => z.elim) key (fun _ _ z => z.elim) (fun _ _ z => z.elim) (fun _ _ z => z.elim) fun _ _ _ z => z.elim
  exact ⟨S, F, fs', s, W'⟩
/-- what nobody may write, and what may be given for it -/
theorem Rst.openSh (R : Rst cl b σ H ρ (ts ++ us)) : ∃ F : SetA, (∀ (k : Nat) v d, us[k]? = some (v, d, .sh) → Rs cl F H d v) ∧ ∀ us' : List (V × D), (∀ p ∈ us', Rs cl F H p.2 p.1) → Rst cl b σ H ρ (ts ++ us'.map fun p => (p.1, p.2, .sh)) := by
  obtain ⟨S, F, fs, s, W⟩ := R
  refine ⟨F, fun k v d e => W.sh (i := .inr (ts.length + k)) ?_, fun us' h => ?_⟩
  · show (ts ++ us)[ts.length + k]? = _
    rw [List.getElem?_append_right (by omega), Nat.add_sub_cancel_left]
    exact e
  · have key : ∀ (k : Nat) (v : V) (d : D) (o : Ow), (us'.map fun p => (p.1, p.2, Ow.sh))[k]? = some (v, d, o) → Rp cl F H o d v (noG (.inr k)) := fun k v d o e => by
      rw [List.getElem?_map] at e
      cases q : us'[k]? with
      | none => rw [q] at e; cases e
      | some p =>
        rw [q] at e
        cases e
        exact (Rp.sh_iff cl).mpr ⟨h p (List.mem_of_getElem? q), fun _ z => z⟩
    obtain ⟨fs', W'⟩ := W.turn (S' := S) (us' := us'.map fun p => (p.1, p.2, .sh)) (H' := H) (F' := F) noJ noG (fun _ _ => rfl) (fun _ _ e _ => e) (fun _ h => h) (fun _ h => .inl h) W.aF (fun _ _ _ _ z => z.elim) key (fun _ _ z => z.elim) (fun _ _ z => z.elim) (fun _ _ z => z.elim) fun _ _ _ z => z.elim
    exact ⟨S, F, fs', s, W'⟩
/-- a scalar at hand -/
theorem Rst.flat (R : Rst cl b σ H ρ ts) {d : D} (hd : d.flat = true) : Rst cl b σ H ρ (ts ++ [(d.toV, d, .sh)]) := by
  rw [← List.append_nil ts] at R
  exact R.giveSh [(d.toV, d)] fun S F fs _ _ p hp => by
    cases List.mem_singleton.mp hp
    exact Rs.of_flat cl hd
end
end DL
/-! DL2: the small language (M, S), and what must hold so that it does what is wanted, over plain data alone. -/
namespace DL
open PySem PySem.Spec PyProof.Rows L2

/-! ### plain data as the model's -/
mutual
def D.toPy : D → Option PyData
  | .non => some .none
  | .bl b => some (.bool b)
  | .int i => some (.int i)
  | .str s => some (.str s)
  | .lst ds => (D.toPyL ds).map .list
  | .tup ds => (D.toPyL ds).map .tuple
  | .dic _ => none
  | .dit _ => none
  | .obj _ _ => none
  | .exc _ _ => none
def D.toPyL : List D → Option (List PyData)
  | [] => some []
  | d :: ds => match d.toPy, D.toPyL ds with
    | some p, some ps => some (p :: ps)
    | _, _ => none
end
def D.toKey : D → Option Key
  | .int i => some (.inl i)
  | .str s => some (.inr s)
  | _ => none
def D.toKeys : D → Option (List Key)
  | .tup ds => ds.mapM D.toKey
  | _ => none
def D.isNon : D → Bool
  | .non => true
  | _ => false

section
variable {κ α : Type} [DecidableEq κ]
def dget (kvs : List (κ × α)) (k : κ) : Option α := (kvs.find? fun kv => decide (kv.1 = k)).map (·.2)
def dput (kvs : List (κ × α)) (k : κ) (x : α) : List (κ × α) := if (kvs.any fun kv => decide (kv.1 = k)) = true then kvs.map (fun kv => if kv.1 = k then (kv.1, x) else kv) else kvs ++ [(k, x)]
end
structure Exc where
  cls : Str
  arg : List D

/-! ### operators over data -/
inductive BOp where
  | add | sub | mul | div | mod | pow
  deriving DecidableEq
inductive COp where
  | eq | ne | lt | le | gt | ge | is | isnot | in_ | nin
  deriving DecidableEq
def sOp (o : BOp) (x y : D) (k : D → Prop) : Prop :=
  match o, x, y with
  | .add, .int i, .int j => k (.int (i + j))
  | .add, .str a, .str b => a.length + b.length ≤ sizeLine ∧ k (.str (a ++ b))
  | .sub, .int i, .int j => k (.int (i - j))
  | .mul, .int i, .int j => (CMul i j ∨ CMulW i j) ∧ k (.int (i * j))
  | .div, .int i, .int j => CDivW i j ∧ k (.int (i / j))
  | .mod, .int i, .int j => 0 < j ∧ k (.int (i % j))
  | .pow, .int i, .int j => CPow i j ∧ k (.int (i ^ j.toNat))
  | _, _, _ => False
/-- x o= y -/
def augW (o : BOp) (x y : D) (k : D → Prop) : Prop :=
  match o, x, y with
  | .add, .int i, .int j => k (.int (i + j))
  | .add, .str a, .str b => a.length + b.length ≤ sizeLine ∧ k (.str (a ++ b))
  | .sub, .int i, .int j => k (.int (i - j))
  | _, _, _ => False
def truthW (d : D) (k : Bool → Prop) : Prop :=
  match d with
  | .non => k false
  | .bl b => k b
  | .int i => k (i != 0)
  | .str s => s.length ≤ sizeLine ∧ k (s.length != 0)
  | .lst xs => k (!xs.isEmpty)
  | .tup xs => k (!xs.isEmpty)
  | _ => False
def eqW (x y : D) (k : Bool → Prop) : Prop :=
  match x.toPy, y.toPy with
  | some p, some q => SeqAt.shaped p = true ∧ SeqAt.shaped q = true ∧ k (PyData.eqv p q)
  | _, _ => False
def inW (x y : D) (k : Bool → Prop) : Prop :=
  match y with
  | .str z => match x with
    | .str y => ∃ c, y = ⟨#[c]⟩ ∧ k (decide (c ∈ z.cps.toList))
    | _ => False
  | .lst ds => match x.toPy, D.toPyL ds with
    | some p, some qs => SeqAt.shaped p = true ∧ SeqAt.shaped (.list qs) = true ∧ k (qs.any fun q => PyData.eqv q p)
    | _, _ => False
  | _ => False
def cmpW (o : COp) (x y : D) (k : Bool → Prop) : Prop :=
  match o with
  | .eq => eqW x y k
  | .ne => eqW x y fun b => k !b
  | .lt => match x, y with
    | .int i, .int j => k (decide (i < j))
    | _, _ => False
  | .le => match x, y with
    | .int i, .int j => k (decide (i ≤ j))
    | _, _ => False
  | .gt => match x, y with
    | .int i, .int j => k (decide (j < i))
    | _, _ => False
  | .ge => match x, y with
    | .int i, .int j => k (decide (j ≤ i))
    | _, _ => False
  | .is => match y with
    | .non => k x.isNon
    | _ => False
  | .isnot => match y with
    | .non => k !x.isNon
    | _ => False
  | .in_ => inW x y k
  | .nin => inW x y fun b => k !b

/-! ### built-ins that hand back a scalar -/
inductive Bi where
  | len | int | min | max | all
  deriving DecidableEq
def D.asBool : D → Option Bool
  | .bl b => some b
  | _ => none
def allW (ds : List D) (k : D → Prop) : Prop := match ds.mapM D.asBool with
  | some bs => k (.bl (bs.all id))
  | none => False
def biW (f : Bi) (xs : List D) (k : D → Prop) : Prop :=
  match f, xs with
  | .len, [.lst ds] => k (.int ds.length)
  | .len, [.tup ds] => k (.int ds.length)
  | .len, [.dic ds] => k (.int ds.length)
  | .len, [.str s] => s.length ≤ sizeLine ∧ k (.int s.length)
  | .int, [.int i] => k (.int i)
  | .int, [.bl b] => k (.int (if b then 1 else 0))
  | .min, [.int i, .int j] => k (.int (if j < i then j else i))
  | .max, [.int i, .int j] => k (.int (if j > i then j else i))
  | .all, [.lst ds] => allW ds k
  | _, _ => False
/-- classes, for isinstance -/
inductive Ty where
  | bt (n : String)
  | ow (c : Str)
  deriving DecidableEq
def D.isa : D → Ty → Bool
  | .non, _ => false
  | .bl _, .bt n => n == "bool" || n == "int"
  | .int _, .bt n => n == "int"
  | .str _, .bt n => n == "str"
  | .lst _, .bt n => n == "list"
  | .tup _, .bt n => n == "tuple"
  | .dic _, .bt n => n == "dict"
  | .dit _, .bt n => n == "dict"
  | .obj c _, .ow c' => decide (c = c')
  | _, _ => false

/-- the built-in class's name -/
def tyn : D → String
  | .non => "NoneType" | .bl _ => "bool" | .int _ => "int" | .str _ => "str" | .lst _ => "list" | .tup _ => "tuple" | .dic _ => "dict" | _ => ""

/-- a def's contract: how its parameters are held (sh: shared; else handed over for the call), what it asks, what it hands back (with the parameters behind it), what it raises -/
structure Shp where
  n : Nat
  ks : List Str
  plan : List Nat
  deriving DecidableEq
def shp (n : Nat) : Shp := ⟨n, [], List.range n⟩
def pickA {α : Type} (plan : List Nat) (xs : List α) : Option (List α) := plan.mapM fun j => xs[j]?
structure Con where
  io : List Ow
  dfl : List D := []
  shp : List Shp
  pre : List D → Prop
  post : List D → D → Ow → List D → Prop
  exc : List D → Exc → List D → Prop := fun _ _ _ => False

/-! ### the language -/
inductive Tg where
  | nm (i : Nat) | nil | cons (t r : Tg)
  deriving DecidableEq
def Tg.slots : Tg → List Nat
  | .nm i => [i]
  | .nil => []
  | .cons t r => t.slots ++ r.slots
/-- what is walked -/
inductive It where
  | lst | tup | str | rng | rng2
  deriving DecidableEq
inductive M where
  | var (i : Nat) | io (i : Nat)
  | num (n : Int) | txt (s : Str) | boo (b : Bool) | non | gcon (x : Str)
  | bin (o : BOp) (a b : M) | neg (a : M)
  | cmp (o : COp) (a b : M) | chn (o o' : COp) (a b c : M)
  | not (a : M) | and (a b : M) | or (a b : M) | ite (c a b : M)
  | nil | cons (a as : M)
  | lst (as : M) | tup (as : M) | dic (kvs : M)
  | ixL (a i : M) | ixD (a i : M) | sliS (a lo hi : M)
  | bi (f : Bi) (as : M) | isa (a : M) (ts : List Ty) | lstOf (a : M) | join (a b : M)
  | call (f : Str) (as kv : M) (sh : Shp)
  | comp (t : Tg) (it : It) (src cond elt : M)
  | popAt (pl i : M)
  | rep (a : M)
  | frz (a : M)
  | mv (i : Nat)

/-- a place: a slot, and further into it -/
def M.isPl : M → Bool
  | .var _ => true
  | .ixL a _ => a.isPl
  | .ixD a _ => a.isPl
  | _ => false
def M.isVar : M → Bool
  | .var _ => true
  | _ => false
/-- nothing is called, nothing changed: it may be read whoever holds what -/
def M.quiet : M → Bool
  | .var _ => true
  | .num _ => true | .txt _ => true | .boo _ => true | .non => true | .gcon _ => true
  | .bin _ a b => a.quiet && b.quiet
  | .neg a => a.quiet
  | .cmp _ a b => a.quiet && b.quiet
  | .chn _ _ a b c => a.quiet && b.quiet && c.quiet
  | .not a => a.quiet
  | .and a b => a.quiet && b.quiet
  | .or a b => a.quiet && b.quiet
  | .ite c a b => c.quiet && a.quiet && b.quiet
  | .nil => true
  | .cons a as => a.quiet && as.quiet
  | .lst as => as.quiet
  | .tup as => as.quiet
  | .ixL a i => a.quiet && i.quiet
  | .ixD a i => a.quiet && i.quiet
  | .sliS a lo hi => a.quiet && lo.quiet && hi.quiet
  | .bi _ as => as.quiet
  | .isa a _ => a.quiet
  | _ => false

/-- an index of a list as a place -/
def ixAt (n : Nat) (i : Int) : Option Nat := if 0 ≤ i then (if i < n then some i.toNat else none) else if 0 ≤ i + n then some (i + n).toNat else none
def ixLW (d i : D) (k : D → Prop) : Prop :=
  match d, i with
  | .lst ds, .int j => ∃ x, atI ds j = some x ∧ k x
  | .tup ds, .int j => ∃ x, atI ds j = some x ∧ k x
  | .str s, .int j => s.length ≤ sizeLine ∧ ∃ c, atI s.cps.toList j = some c ∧ k (.str ⟨#[c]⟩)
  | _, _ => False
def ixDW (d i : D) (k : Key → D → Prop) : Prop :=
  match d with
  | .dic kvs => ∃ key x, i.toKey = some key ∧ dget kvs key = some x ∧ k key x
  | _ => False
def optI (d : List D) (k : Option Int → Prop) : Prop :=
  match d with
  | [] => k none
  | [.int i] => k (some i)
  | _ => False

structure Tab where
  fn : Str → Option Con
  con : Str → Option D

/-- quiet reading: the results, one (or, of an argument list, as many as it has) -/
def wB (T : Tab) : M → DEnv → (List D → Prop) → Prop
  | .var i, ρ, k => match ρ[i]? with
    | some (some (d, _)) => k [d]
    | _ => False
  | .num n, _, k => k [.int n]
  | .txt s, _, k => k [.str s]
  | .boo b, _, k => k [.bl b]
  | .non, _, k => k [.non]
  | .gcon x, _, k => match T.con x with
    | some d => d.flat = true ∧ k [d]
    | none => False
  | .bin o a b, ρ, k => wB T a ρ fun xs => wB T b ρ fun ys => match xs, ys with
    | [x], [y] => sOp o x y fun r => k [r]
    | _, _ => False
  | .neg a, ρ, k => wB T a ρ fun xs => match xs with
    | [.int i] => k [.int (-i)]
    | _ => False
  | .cmp o a b, ρ, k => wB T a ρ fun xs => wB T b ρ fun ys => match xs, ys with
    | [x], [y] => cmpW o x y fun r => k [.bl r]
    | _, _ => False
  | .chn o o' a b c, ρ, k => wB T a ρ fun xs => wB T b ρ fun ys => match xs, ys with
    | [x], [y] => cmpW o x y fun r => if r = true then wB T c ρ fun zs => match zs with
        | [z] => cmpW o' y z fun r => k [.bl r]
        | _ => False
      else k [.bl false]
    | _, _ => False
  | .not a, ρ, k => wB T a ρ fun xs => match xs with
    | [x] => truthW x fun b => k [.bl !b]
    | _ => False
  | .and a b, ρ, k => wB T a ρ fun xs => match xs with
    | [.bl c] => if c = true then wB T b ρ k else k [.bl false]
    | _ => False
  | .or a b, ρ, k => wB T a ρ fun xs => match xs with
    | [.bl c] => if c = true then k [.bl true] else wB T b ρ k
    | _ => False
  | .ite c a b, ρ, k => wB T c ρ fun xs => match xs with
    | [x] => truthW x fun t => if t = true then wB T a ρ k else wB T b ρ k
    | _ => False
  | .nil, _, k => k []
  | .cons a as, ρ, k => wB T a ρ fun xs => wB T as ρ fun ys => match xs with
    | [x] => k (x :: ys)
    | _ => False
  | .lst as, ρ, k => wB T as ρ fun xs => xs.length ≤ sizeLine ∧ k [.lst xs]
  | .tup as, ρ, k => wB T as ρ fun xs => xs.length ≤ sizeLine ∧ k [.tup xs]
  | .ixL a i, ρ, k => wB T a ρ fun xs => wB T i ρ fun ys => match xs, ys with
    | [x], [y] => ixLW x y fun r => k [r]
    | _, _ => False
  | .ixD a i, ρ, k => wB T a ρ fun xs => wB T i ρ fun ys => match xs, ys with
    | [x], [y] => ixDW x y fun _ r => k [r]
    | _, _ => False
  | .sliS a lo hi, ρ, k => wB T a ρ fun xs => match xs with
    | [.str s] => wB T lo ρ fun ls => optI ls fun l => wB T hi ρ fun hs => optI hs fun h => s.length ≤ sizeLine ∧ k [.str (cutS s l h)]
    | _ => False
  | .bi f as, ρ, k => wB T as ρ fun xs => biW f xs fun r => k [r]
  | .isa a ts, ρ, k => wB T a ρ fun xs => match xs with
    | [x] => tyn x ≠ "" ∧ k [.bl (ts.any x.isa)]
    | _ => False
  | _, _, _ => False

/-! ### places -/
inductive PKey where
  | ix (n : Nat) | ky (k : Key)
  deriving DecidableEq
/-- the data with another part at a place -/
def D.updAt : D → List PKey → D → D
  | _, [], x => x
  | .lst ds, .ix n :: p, x => .lst (ds.set n ((ds.getD n .non).updAt p x))
  | .dic kvs, .ky k :: p, x => .dic (dput kvs k (((dget kvs k).getD .non).updAt p x))
  | d, _ :: _, _ => d
/-- the data at a place, and how it is held -/
def At : D → Ow → List PKey → D → Ow → Prop
  | d0, o0, [], d, o => d = d0 ∧ o = o0
  | .lst ds, o0, .ix n :: p, d, o => ∃ x, ds[n]? = some x ∧ At x (o0.child (.inl 0)) p d o
  | .tup ds, _, .ix n :: p, d, o => ∃ x, ds[n]? = some x ∧ At x .sh p d o
  | .str z, _, .ix n :: p, d, o => ∃ c, z.cps.toList[n]? = some c ∧ At (.str ⟨#[c]⟩) .sh p d o
  | .dic kvs, o0, .ky k :: p, d, o => ∃ x, dget kvs k = some x ∧ At x (o0.child k) p d o
  | _, _, _, _, _ => False
/-- a place: its slot, the way into it, what stands there, how it is held -/
def plW (T : Tab) : M → DEnv → (Nat → List PKey → D → Ow → Prop) → Prop
  | .var i, ρ, k => match ρ[i]? with
    | some (some (d, o)) => k i [] d o
    | _ => False
  | .ixL a i, ρ, k => plW T a ρ fun s p d o => wB T i ρ fun ys => match d, ys with
    | .lst ds, [.int j] => ∃ n x, ixN ds.length j = some n ∧ ds[n]? = some x ∧ k s (p ++ [.ix n]) x (o.child (.inl 0))
    | .tup ds, [.int j] => ∃ n x, ixN ds.length j = some n ∧ ds[n]? = some x ∧ k s (p ++ [.ix n]) x .sh
    | .str z, [.int j] => z.length ≤ sizeLine ∧ ∃ n c, ixN z.cps.toList.length j = some n ∧ z.cps.toList[n]? = some c ∧ k s (p ++ [.ix n]) (.str ⟨#[c]⟩) .sh
    | _, _ => False
  | .ixD a i, ρ, k => plW T a ρ fun s p d o => wB T i ρ fun ys => match d, ys with
    | .dic kvs, [y] => ∃ key x, y.toKey = some key ∧ dget kvs key = some x ∧ k s (p ++ [.ky key]) x (o.child key)
    | _, _ => False
  | _, _, _ => False

/-! ### what may call and change -/
inductive Arg where
  | dat (d : D) (o : Ow) | slot (i : Nat)
def datas : List Arg → Option (List D)
  | [] => some []
  | .dat d _ :: r => (datas r).map (d :: ·)
  | .slot _ :: _ => none
/-- how the items of a new list are held: alike, or nobody may write them -/
def shapes : List Arg → List Ow
  | [] => []
  | .dat d o :: r => if d.flat = true then shapes r else o :: shapes r
  | .slot _ :: r => .sh :: shapes r
def meet (xs : List Arg) : Ow := match shapes xs with
  | [] => .sh
  | o :: r => if r.all (fun p => decide (p = o)) then o else .sh
def argD (ρ : DEnv) : List Arg → List Ow → Option (List D)
  | [], [] => some []
  | .dat d _ :: ps, .sh :: os => (argD ρ ps os).map (d :: ·)
  | .slot i :: ps, o :: os => match ρ[i]? with
    | some (some (d, o')) => if o' = o ∧ o ≠ .sh then (argD ρ ps os).map (d :: ·) else none
    | _ => none
  | _, _ => none
def slotsOf : List Arg → List Nat
  | [] => []
  | .slot i :: r => i :: slotsOf r
  | .dat _ _ :: r => slotsOf r
def putIo (ρ : DEnv) : List Arg → List Ow → List D → DEnv
  | .slot i :: ps, o :: os, d :: ds => putIo (ρ.set i (some (d, o))) ps os ds
  | .dat _ _ :: ps, _ :: os, _ :: ds => putIo ρ ps os ds
  | _, _, _ => ρ
abbrev XC := Exc → DEnv → Prop
def pairUp : List Arg → Option (List (Key × Arg))
  | [] => some []
  | .dat k _ :: v :: r => match k.toKey, pairUp r with
    | some key, some ps => some ((key, v) :: ps)
    | _, _ => none
  | _ => none
def dicOw : List (Key × Arg) → Ow
  | [] => .own .sh
  | (k, .dat d o) :: r => if d.flat = true ∨ o = .sh then dicOw r else .ownK k o (dicOw r)
  | (_, .slot _) :: r => dicOw r
def dicD : List (Key × Arg) → Option (List (Key × D))
  | [] => some []
  | (k, .dat d _) :: r => (dicD r).map ((k, d) :: ·)
  | (_, .slot _) :: _ => none
def D.strs : List D → Option (List Str)
  | [] => some []
  | .str s :: r => (D.strs r).map (s :: ·)
  | _ => none
/-- the items of what is walked -/
def itemsW (it : It) (xs : List D) (k : List D → Prop) : Prop :=
  match it, xs with
  | .lst, [.lst ds] => k ds
  | .tup, [.tup ds] => k ds
  | .str, [.str s] => k (s.cps.toList.map fun c => .str ⟨#[c]⟩)
  | .rng, [.int n] => -(2 ^ 62) ≤ n ∧ n < 2 ^ 62 ∧ k ((List.range n.toNat).map fun i => .int (0 + (i : Nat)))
  | .rng2, [.int a, .int b] => (-(2 ^ 62) ≤ a ∧ a < 2 ^ 62) ∧ (-(2 ^ 62) ≤ b ∧ b < 2 ^ 62) ∧ k ((List.range (b - a).toNat).map fun i => .int (a + (i : Nat)))
  | _, _ => False
/-- a target takes a value that nobody may write -/
def tgW : Tg → D → DEnv → Option DEnv
  | .nm i, d, ρ => some (ρ.set i (some (d, .sh)))
  | .nil, .tup [], ρ => some ρ
  | .cons t r, .tup (d :: ds), ρ => (tgW t d ρ).bind fun ρ1 => tgW r (.tup ds) ρ1
  | _, _, _ => none
/-- the slots of a block's own names forgotten -/
def clr (ρ : DEnv) : List Nat → DEnv
  | [] => ρ
  | i :: l => (clr ρ l).set i none
/-- the turns of a comprehension: the items left, what is made so far (its items held as c) -/
def compW (f : DEnv → (List Arg → DEnv → Prop) → Prop) (t : Tg) (c : Ow) : List D → List D → DEnv → (List D → DEnv → Prop) → Prop
  | [], acc, ρ, k => k acc ρ
  | d :: ds, acc, ρ, k => match tgW t d ρ with
    | some ρ1 => f ρ1 fun xs ρ' => match xs with
      | [] => compW f t c ds acc (clr ρ' t.slots) k
      | [.dat x ox] => acc.length < sizeLine ∧ (x.flat = true ∨ c = .sh ∨ c = ox) ∧ compW f t c ds (acc ++ [x]) (clr ρ' t.slots) k
      | _ => False
    | none => False

/-- the call, its arguments at hand -/
def callC (con : Con) (sh : Shp) (p1 p2 : List Arg) (ρ1 : DEnv) (k : List Arg → DEnv → Prop) (xc : XC) : Prop := p1.length = sh.n ∧ p2.length = sh.ks.length ∧ match pickA sh.plan (p1 ++ p2 ++ con.dfl.map fun d => .dat d .sh) with
      | some qs => match argD ρ1 qs con.io with
        | some ds => (slotsOf qs).Nodup ∧ con.pre ds ∧ (∀ r ro outs, outs.length = ds.length → con.post ds r ro outs → k [.dat r ro] (putIo ρ1 qs con.io outs)) ∧ ∀ e outs, outs.length = ds.length → con.exc ds e outs → xc e (putIo ρ1 qs con.io outs)
        | none => False
      | none => False
def wE (T : Tab) : M → DEnv → (List Arg → DEnv → Prop) → XC → Prop
  | .var i, ρ, k, _ => match ρ[i]? with
    | some (some (d, o)) => if o = .sh then k [.dat d .sh] ρ else k [.dat d .sh] (ρ.set i (some (d, .sh)))
    | _ => False
  | .io i, ρ, k, _ => match ρ[i]? with
    | some (some _) => k [.slot i] ρ
    | _ => False
  | .num n, ρ, k, _ => k [.dat (.int n) .sh] ρ
  | .txt s, ρ, k, _ => k [.dat (.str s) .sh] ρ
  | .boo b, ρ, k, _ => k [.dat (.bl b) .sh] ρ
  | .non, ρ, k, _ => k [.dat .non .sh] ρ
  | .gcon x, ρ, k, _ => match T.con x with
    | some d => d.flat = true ∧ k [.dat d .sh] ρ
    | none => False
  | .bin o a b, ρ, k, xc => if (a.quiet && b.quiet) = true then wB T (.bin o a b) ρ fun rs => match rs with
      | [r] => r.flat = true ∧ k [.dat r .sh] ρ
      | _ => False
    else wE T a ρ (fun xs ρ1 => wE T b ρ1 (fun ys ρ2 => match xs, ys with
      | [.dat x _], [.dat y _] => sOp o x y fun r => k [.dat r .sh] ρ2
      | _, _ => False) xc) xc
  | .neg a, ρ, k, xc => wE T a ρ (fun xs ρ1 => match xs with
      | [.dat (.int i) _] => k [.dat (.int (-i)) .sh] ρ1
      | _ => False) xc
  | .cmp o a b, ρ, k, xc => if (a.quiet && b.quiet) = true then wB T (.cmp o a b) ρ fun rs => match rs with
      | [r] => r.flat = true ∧ k [.dat r .sh] ρ
      | _ => False
    else wE T a ρ (fun xs ρ1 => wE T b ρ1 (fun ys ρ2 => match xs, ys with
      | [.dat x _], [.dat y _] => cmpW o x y fun r => k [.dat (.bl r) .sh] ρ2
      | _, _ => False) xc) xc
  | .chn o o' a b c, ρ, k, _ => (a.quiet && b.quiet && c.quiet) = true ∧ wB T (.chn o o' a b c) ρ fun rs => match rs with
      | [r] => r.flat = true ∧ k [.dat r .sh] ρ
      | _ => False
  | .not a, ρ, k, xc => wE T a ρ (fun xs ρ1 => match xs with
      | [.dat x _] => truthW x fun b => k [.dat (.bl !b) .sh] ρ1
      | _ => False) xc
  | .and a b, ρ, k, xc => wE T a ρ (fun xs ρ1 => match xs with
      | [.dat (.bl c) _] => if c = true then wE T b ρ1 k xc else k [.dat (.bl false) .sh] ρ1
      | _ => False) xc
  | .or a b, ρ, k, xc => wE T a ρ (fun xs ρ1 => match xs with
      | [.dat (.bl c) _] => if c = true then k [.dat (.bl true) .sh] ρ1 else wE T b ρ1 k xc
      | _ => False) xc
  | .ite c a b, ρ, k, xc => wE T c ρ (fun xs ρ1 => match xs with
      | [.dat x _] => truthW x fun t => if t = true then wE T a ρ1 k xc else wE T b ρ1 k xc
      | _ => False) xc
  | .nil, ρ, k, _ => k [] ρ
  | .cons a as, ρ, k, xc => wE T a ρ (fun xs ρ1 => xs.length = 1 ∧ wE T as ρ1 (fun ys ρ2 => k (xs ++ ys) ρ2) xc) xc
  | .lst as, ρ, k, xc => wE T as ρ (fun xs ρ1 => match datas xs with
      | some ds => ds.length ≤ sizeLine ∧ k [.dat (.lst ds) (.own (meet xs))] ρ1
      | none => False) xc
  | .tup as, ρ, k, xc => wE T as ρ (fun xs ρ1 => match datas xs with
      | some ds => ds.length ≤ sizeLine ∧ k [.dat (.tup ds) .sh] ρ1
      | none => False) xc
  | .dic kvs, ρ, k, xc => wE T kvs ρ (fun xs ρ1 => match pairUp xs with
      | some ps => match dicD ps with
        | some ds => (ds.map (·.1)).Nodup ∧ ds.length ≤ 15 ∧ k [.dat (.dic ds) (dicOw ps)] ρ1
        | none => False
      | none => False) xc
  | .ixL a i, ρ, k, xc => if (a.isPl && a.quiet && i.quiet) = true then plW T (.ixL a i) ρ fun _ _ d o => (d.flat = true ∨ o = .sh) ∧ k [.dat d .sh] ρ
    else wE T a ρ (fun xs ρ1 => wE T i ρ1 (fun ys ρ2 => match xs, ys with
      | [.dat x _], [.dat y _] => ixLW x y fun r => k [.dat r .sh] ρ2
      | _, _ => False) xc) xc
  | .ixD a i, ρ, k, _ => (a.isPl && a.quiet && i.quiet) = true ∧ plW T (.ixD a i) ρ fun _ _ d o => (d.flat = true ∨ o = .sh) ∧ k [.dat d .sh] ρ
  | .sliS a lo hi, ρ, k, xc => if (a.quiet && lo.quiet && hi.quiet) = true then wB T (.sliS a lo hi) ρ fun rs => match rs with
      | [r] => r.flat = true ∧ k [.dat r .sh] ρ
      | _ => False
    else wE T a ρ (fun xs ρ1 => match xs with
      | [.dat (.str s) _] => wE T lo ρ1 (fun ls ρ2 => match datas ls with
        | some l => optI l fun l => wE T hi ρ2 (fun hs ρ3 => match datas hs with
          | some h => optI h fun h => s.length ≤ sizeLine ∧ k [.dat (.str (cutS s l h)) .sh] ρ3
          | none => False) xc
        | none => False) xc
      | _ => False) xc
  | .bi f as, ρ, k, xc => if as.quiet = true then wB T (.bi f as) ρ fun rs => match rs with
      | [r] => r.flat = true ∧ k [.dat r .sh] ρ
      | _ => False
    else wE T as ρ (fun xs ρ1 => match datas xs with
      | some ds => biW f ds fun r => k [.dat r .sh] ρ1
      | none => False) xc
  | .isa a ts, ρ, k, _ => a.quiet = true ∧ wB T (.isa a ts) ρ fun rs => match rs with
      | [r] => r.flat = true ∧ k [.dat r .sh] ρ
      | _ => False
  | .lstOf a, ρ, k, xc => wE T a ρ (fun xs ρ1 => match xs with
      | [.dat (.lst ds) _] => k [.dat (.lst ds) (.own .sh)] ρ1
      | [.dat (.tup ds) _] => k [.dat (.lst ds) (.own .sh)] ρ1
      | _ => False) xc
  | .join a b, ρ, k, xc => wE T a ρ (fun xs ρ1 => match xs with
      | [.dat (.str z) _] => wE T b ρ1 (fun ys ρ2 => match ys with
        | [.dat (.lst ds) _] => match D.strs ds with
          | some ss => (ss.map (·.length)).sum + ss.length * z.length ≤ 16777216 ∧ k [.dat (.str (Txt.join z ss)) .sh] ρ2
          | none => False
        | _ => False) xc
      | _ => False) xc
  | .call f as kv sh, ρ, k, xc => match T.fn f with
    | some con => sh ∈ con.shp ∧ wE T as ρ (fun p1 ρ0 => wE T kv ρ0 (fun p2 ρ1 => callC con sh p1 p2 ρ1 k xc) xc) xc
    | none => False
  | .comp t it src cond elt, ρ, k, xc => wE T src ρ (fun xs ρ1 => match datas xs with
      | some ds => itemsW it ds fun items => ∃ c, compW (fun ρ2 k2 => wE T cond ρ2 (fun cs ρ3 => match cs with
          | [] => wE T elt ρ3 (fun xs ρ4 => xs.length = 1 ∧ k2 xs ρ4) fun _ _ => False
          | [.dat c _] => truthW c fun b => if b = true then wE T elt ρ3 (fun xs ρ4 => xs.length = 1 ∧ k2 xs ρ4) fun _ _ => False else k2 [] ρ3
          | _ => False) fun _ _ => False) t c items [] (clr ρ1 t.slots) fun out ρ2 => k [.dat (.lst out) (.own c)] ρ2
      | none => False) xc
  | .popAt pl i, ρ, k, xc => if i.quiet = true then (pl.isPl && pl.quiet) = true ∧ plW T pl ρ fun s p d o => match d with
      | .lst ds => wB T i ρ fun ys => match ys with
        | [.int j] => ∃ n x d0 o0, o ≠ .sh ∧ ρ[s]? = some (some (d0, o0)) ∧ -(2 ^ 63) ≤ j ∧ j < 2 ^ 63 ∧ ixN ds.length j = some n ∧ ds[n]? = some x ∧ k [.dat x (o.child (.inl 0))] (ρ.set s (some (d0.updAt p (.lst (ds.eraseIdx n)), o0)))
        | _ => False
      | _ => False
    else match pl with
      | .var s => (∃ ds o, ρ[s]? = some (some (.lst ds, o))) ∧ wE T i ρ (fun ys ρ1 => match ys, ρ1[s]? with
        | [.dat (.int j) _], some (some (.lst ds, o)) => ∃ n x, o ≠ .sh ∧ -(2 ^ 63) ≤ j ∧ j < 2 ^ 63 ∧ ixN ds.length j = some n ∧ ds[n]? = some x ∧ k [.dat x (o.child (.inl 0))] (ρ1.set s (some (.lst (ds.eraseIdx n), o)))
        | _, _ => False) xc
      | _ => False
  | .rep a, ρ, k, xc => wE T a ρ (fun xs ρ1 => match xs with
      | [.dat x _] => match x.toPy with
        | some p => p.showable = true ∧ p.depth ≤ 40 ∧ p.hasDict = false ∧ p.shown.length ≤ sizeLine ∧ k [.dat (.str p.shown) .sh] ρ1
        | none => False
      | _ => False) xc
  | .mv i, ρ, k, _ => match ρ[i]? with
    | some (some (d, o)) => k [.dat d o] (ρ.set i none)
    | _ => False
  | .frz a, ρ, k, xc => wE T a ρ (fun xs ρ1 => match xs with
      | [.dat d _] => k [.dat d .sh] ρ1
      | _ => False) xc


/-! ### statements -/
inductive S where
  | skip | seq (a b : S)
  | asg (i : Nat) (e : M) | asgs (is : List Nat) (e : M) | asgT (t : Tg) (e : M) | stuck
  | setL (pl i e : M) | setD (pl i e : M) | app (pl e : M)
  | aug (i : Nat) (o : BOp) (e : M) | exp (e : M)
  | ite (c : M) (a b : S) | loop (t : Tg) (it : It) (src : M) (b : S) | while (c : M) (b : S)
  | ret (e : M) | brk | cont
structure En where
  nx : DEnv → Prop
  rt : D → Ow → DEnv → Prop
  bk : DEnv → Prop
  ct : DEnv → Prop
  xc : XC
def setAll (ρ : DEnv) : List Nat → List Arg → Option DEnv
  | [], [] => some ρ
  | i :: is, .dat d o :: r => setAll (ρ.set i (some (d, o))) is r
  | _, _ => none
def forW (f : DEnv → (DEnv → Prop) → Prop) (t : Tg) (k : DEnv → Prop) : List D → DEnv → Prop
  | [], ρ => k ρ
  | d :: ds, ρ => match tgW t d ρ with
    | some ρ1 => f ρ1 (forW f t k ds)
    | none => False
def wS (T : Tab) : S → DEnv → En → Prop
  | .skip, ρ, E => E.nx ρ
  | .seq a b, ρ, E => wS T a ρ { E with nx := fun ρ1 => wS T b ρ1 E }
  | .asg i e, ρ, E => wE T e ρ (fun xs ρ1 => match xs with
      | [.dat d o] => E.nx (ρ1.set i (some (d, o)))
      | _ => False) E.xc
  | .asgs is e, ρ, E => wE T e ρ (fun xs ρ1 => match setAll ρ1 is xs with
      | some ρ2 => E.nx ρ2
      | none => False) E.xc
  | .asgT t e, ρ, E => wE T e ρ (fun xs ρ1 => match xs with
      | [.dat d _] => (match tgW t d ρ1 with
        | some ρ2 => E.nx ρ2
        | none => False)
      | _ => False) E.xc
  | .stuck, _, _ => False
  | .setL pl i e, ρ, E => wE T e ρ (fun xs ρ1 => match xs with
      | [.dat x ox] => (pl.isPl && pl.quiet) = true ∧ i.quiet = true ∧ plW T pl ρ1 fun s p d o => wB T i ρ1 fun ys => match d, ys with
        | .lst ds, [.int j] => ∃ n d0 o0, o ≠ .sh ∧ (x.flat = true ∨ o.child (.inl 0) = .sh ∨ o.child (.inl 0) = ox) ∧ ρ1[s]? = some (some (d0, o0)) ∧ ixN ds.length j = some n ∧ E.nx (ρ1.set s (some (d0.updAt p (.lst (ds.set n x)), o0)))
        | _, _ => False
      | _ => False) E.xc
  | .setD pl i e, ρ, E => wE T e ρ (fun xs ρ1 => match xs with
      | [.dat x ox] => (pl.isPl && pl.quiet) = true ∧ i.quiet = true ∧ plW T pl ρ1 fun s p d o => wB T i ρ1 fun ys => match d, ys with
        | .dic kvs, [y] => ∃ key d0 o0, o ≠ .sh ∧ (x.flat = true ∨ o.child key = .sh ∨ o.child key = ox) ∧ ρ1[s]? = some (some (d0, o0)) ∧ y.toKey = some key ∧ kvs.length < sizeLine ∧ E.nx (ρ1.set s (some (d0.updAt p (.dic (dput kvs key x)), o0)))
        | _, _ => False
      | _ => False) E.xc
  | .app (.var s) e, ρ, E => (∃ ds o, ρ[s]? = some (some (.lst ds, o))) ∧ wE T e ρ (fun xs ρ1 => match xs, ρ1[s]? with
        | [.dat x ox], some (some (.lst ds, o)) => o ≠ .sh ∧ (x.flat = true ∨ o.child (.inl 0) = .sh ∨ o.child (.inl 0) = ox) ∧ ds.length < sizeLine ∧ E.nx (ρ1.set s (some (.lst (ds ++ [x]), o)))
        | _, _ => False) E.xc
  | .app pl e, ρ, E => (pl.isPl && pl.quiet) = true ∧ e.quiet = true ∧ plW T pl ρ fun s p d o => match d with
      | .lst ds => wB T e ρ fun ys => match ys with
        | [x] => x.flat = true ∧ ∃ d0 o0, o ≠ .sh ∧ ρ[s]? = some (some (d0, o0)) ∧ ds.length < sizeLine ∧ E.nx (ρ.set s (some (d0.updAt p (.lst (ds ++ [x])), o0)))
        | _ => False
      | _ => False
  | .aug i o e, ρ, E => (∃ d od, ρ[i]? = some (some (d, od))) ∧ wE T e ρ (fun xs ρ1 => match ρ1[i]?, xs with
      | some (some (x, _)), [.dat y _] => augW o x y fun r => E.nx (ρ1.set i (some (r, .sh)))
      | _, _ => False) E.xc
  | .exp e, ρ, E => wE T e ρ (fun _ ρ1 => E.nx ρ1) E.xc
  | .ite c a b, ρ, E => wE T c ρ (fun xs ρ1 => match xs with
      | [.dat x _] => truthW x fun t => if t = true then wS T a ρ1 E else wS T b ρ1 E
      | _ => False) E.xc
  | .loop t it src b, ρ, E => wE T src ρ (fun xs ρ1 => match datas xs with
      | some ds => itemsW it ds fun items => forW (fun ρ2 k => wS T b ρ2 { E with nx := k, ct := k, bk := E.nx }) t E.nx items ρ1
      | none => False) E.xc
  | .while c b, ρ, E => ∃ W : Nat → DEnv → Prop, (∃ m, W m ρ) ∧ ∀ m ρ, W m ρ → wE T c ρ (fun xs ρ1 => match xs with
      | [.dat x _] => truthW x fun t => if t = true then wS T b ρ1 { E with nx := fun ρ2 => ∃ m', m' < m ∧ W m' ρ2, ct := fun ρ2 => ∃ m', m' < m ∧ W m' ρ2, bk := E.nx } else E.nx ρ1
      | _ => False) E.xc
  | .ret (.var i), ρ, E => match ρ[i]? with
    | some (some (d, o)) => E.rt d o (ρ.set i none)
    | _ => False
  | .ret e, ρ, E => wE T e ρ (fun xs ρ1 => match xs with
      | [.dat d o] => E.rt d o ρ1
      | _ => False) E.xc
  | .brk, ρ, E => E.bk ρ
  | .cont, ρ, E => E.ct ρ
end DL
/-! DL3: the operators over data do what the model's do. -/
namespace DL
open PySem PySem.Spec PyProof.Rows L2

abbrev all : SetA := fun _ => True
/-- several values stand for several data -/
def RsL (cl : Str → Addr) (F : SetA) (H : Hp) (ds : List D) (vs : List V) : Prop :=
  ds.length = vs.length ∧ ∀ (i : Nat) d v, ds[i]? = some d → vs[i]? = some v → Rs cl F H d v
section
variable {cl : Str → Addr} {F : SetA} {H H' : Hp}
theorem RsL.nil : RsL cl F H [] [] := ⟨rfl, fun i d v h => by simp at h⟩
theorem RsL.cons {d : D} {v : V} {ds : List D} {vs : List V} (h : Rs cl F H d v) (r : RsL cl F H ds vs) : RsL cl F H (d :: ds) (v :: vs) := by
  refine ⟨by simp [r.1], fun i d' v' h1 h2 => ?_⟩
  cases i with
  | zero => simp at h1 h2; subst h1; subst h2; exact h
  | succ i => simp at h1 h2; exact r.2 i d' v' h1 h2
theorem RsL.inv {d : D} {ds : List D} {vs : List V} (r : RsL cl F H (d :: ds) vs) : ∃ v vs', vs = v :: vs' ∧ Rs cl F H d v ∧ RsL cl F H ds vs' := by
  cases vs with
  | nil => have := r.1; simp at this
  | cons v vs => exact ⟨v, vs, rfl, r.2 0 d v rfl rfl, by have := r.1; simpa using this, fun i d' v' h1 h2 => r.2 (i + 1) d' v' (by simpa using h1) (by simpa using h2)⟩
theorem RsL.nil_inv {vs : List V} (r : RsL cl F H [] vs) : vs = [] := by
  cases vs with
  | nil => rfl
  | cons v vs => have := r.1; simp at this
theorem Rs.ext {d : D} {v : V} (h : Rs cl F H d v) (s : Same H H') : Rs cl F H' d v := h.mono cl (fun _ h => h) fun _ _ _ r => Rx.same (fun o e => s _ o e) r
theorem RsL.ext {ds : List D} {vs : List V} (h : RsL cl F H ds vs) (s : Same H H') : RsL cl F H' ds vs := ⟨h.1, fun i d v h1 h2 => (h.2 i d v h1 h2).ext s⟩
theorem Rs.any {d : D} {v : V} (h : Rs cl F H d v) : Rs cl DL.all H d v := h.mono cl (fun _ _ => trivial) fun _ _ _ r => r
mutual
theorem Rs.dp {K : PySem.W.Frag} : ∀ (d : D) {v : V} {p : PyData}, d.toPy = some p → Rs cl F H d v → Dp K H v p
  | .non, v, p, e, h => by cases h; cases e; exact .non
  | .bl b, v, p, e, h => by cases h; cases e; exact .bl b
  | .int i, v, p, e, h => by cases h; cases e; exact .int i
  | .str s, v, p, e, h => by cases h; cases e; exact .str s
  | .lst ds, v, p, e, h => by
    cases h with
    | lst _ r l c =>
      cases q : D.toPyL ds with
      | none => rw [D.toPy, q] at e; cases e
      | some ps =>
        rw [D.toPy, q] at e
        cases e
        exact .lst (.inl r) (RsL.dp ds q ⟨l, c⟩)
  | .tup ds, v, p, e, h => by
    cases h with
    | tup _ r l c =>
      cases q : D.toPyL ds with
      | none => rw [D.toPy, q] at e; cases e
      | some ps =>
        rw [D.toPy, q] at e
        cases e
        exact .tup (.inl (.inl r)) (RsL.dp ds q ⟨l, c⟩)
theorem RsL.dp {K : PySem.W.Frag} : ∀ (ds : List D) {vs : List V} {ps : List PyData}, D.toPyL ds = some ps → RsL cl F H ds vs → DpAll K H vs ps
  | [], vs, ps, e, h => by
    cases e
    rw [h.nil_inv]
    exact .nil
  | d :: ds, vs, ps, e, h => by
    obtain ⟨v, vs', rfl, h1, h2⟩ := h.inv
    rw [D.toPyL] at e
    cases q1 : d.toPy with
    | none => rw [q1] at e; cases e
    | some p =>
      cases q2 : D.toPyL ds with
      | none => rw [q1, q2] at e; cases e
      | some ps' =>
        rw [q1, q2] at e
        cases e
        exact .cons (Rs.dp d q1 h1) (RsL.dp ds q2 h2)
end
end

def BOp.py : BOp → Operator
  | .add => .Add | .sub => .Sub | .mul => .Mult | .div => .FloorDiv | .mod => .Mod | .pow => .Pow
def COp.py : COp → CmpOp
  | .eq => .Eq | .ne => .NotEq | .lt => .Lt | .le => .LtE | .gt => .Gt | .ge => .GtE | .is => .Is | .isnot => .IsNot | .in_ => .In | .nin => .NotIn

section
variable {cl : Str → Addr} {X : Cx}
theorem isE {α β : Type} {xs : List α} {vs : List β} (l : xs.length = vs.length) : vs.isEmpty = xs.isEmpty := by
  cases vs <;> cases xs <;> simp at l ⊢
/-- scalars under an operator -/
theorem op_s (o : BOp) : OpR X (binaryOp o.py) (fun x y H Q => ∃ d e, x = d.toV ∧ y = e.toV ∧ sOp o d e fun r => r.flat = true → Q r.toV H) := by
  intro pins s σ H x y v u Q I rx ry h
  obtain ⟨d, e, rfl, rfl, h⟩ := h
  unfold sOp at h
  split at h
  · exact op_add pins s σ H _ _ v u Q I rx ry ⟨_, _, rfl, rfl, h rfl⟩
  · exact op_add_str pins s σ H _ _ v u Q I rx ry ⟨_, _, rfl, rfl, h.1, h.2 rfl⟩
  · exact op_sub pins s σ H _ _ v u Q I rx ry ⟨_, _, rfl, rfl, h rfl⟩
  · obtain ⟨h1 | h1, h2⟩ := h
    · exact op_mul pins s σ H _ _ v u Q I rx ry ⟨_, _, rfl, rfl, h1, h2 rfl⟩
    · exact op_mulW pins s σ H _ _ v u Q I rx ry ⟨_, _, rfl, rfl, h1, h2 rfl⟩
  · exact op_fdivW pins s σ H _ _ v u Q I rx ry ⟨_, _, rfl, rfl, h.1, h.2 rfl⟩
  · exact op_mod pins s σ H _ _ v u Q I rx ry ⟨_, _, rfl, rfl, h.1, h.2 rfl⟩
  · exact op_pow pins s σ H _ _ v u Q I rx ry ⟨_, _, rfl, rfl, h.1, h.2 rfl⟩
  · exact h.elim
theorem truth_v {H : Hp} {d : D} {v : V} {k : Bool → Prop} (h : Rs cl DL.all H d v) (t : truthW d k) : ∃ b, TruV X.K v H b ∧ k b := by
  unfold truthW at t
  split at t
  · cases h; exact ⟨_, rfl, t⟩
  · cases h; exact ⟨_, rfl, t⟩
  · cases h; exact ⟨_, rfl, t⟩
  · cases h
    refine ⟨_, ⟨t.1, rfl⟩, ?_⟩
    have e : ∀ n : Nat, ((n : Int) != 0) = (n != 0) := fun n => by cases n <;> simp [bne]; omega
    rw [e]
    exact t.2
  · cases h with
    | @lst xs a vs _ r l _ =>
      refine ⟨_, .inl ⟨vs, .inl r, rfl⟩, ?_⟩
      rw [isE l]; exact t
  · cases h with
    | @tup xs a vs _ r l _ =>
      refine ⟨_, .inr (.inl ⟨vs, .inl (.inl r), rfl⟩), ?_⟩
      rw [isE l]; exact t
  · exact t.elim
/-- a comparison of data -/
theorem op_c (hu : X.A.units + 65 < cLine) (o : COp) : OpR X (compareOp o.py) (fun x y H Q => ∃ d e, Rs cl DL.all H d x ∧ Rs cl DL.all H e y ∧ cmpW o d e fun r => Q (.bl r) H) := by
  intro pins s σ H x y v u Q I rx ry h
  obtain ⟨d, e, hd, he, h⟩ := h
  unfold cmpW at h
  split at h
  · unfold eqW at h
    split at h
    · rename_i p q e1 e2
      exact op_eqD (by omega) pins s σ H _ _ v u Q I rx ry ⟨p, q, Rs.dp d e1 hd, Rs.dp e e2 he, h.1, h.2.1, h.2.2⟩
    · exact h.elim
  · unfold eqW at h
    split at h
    · rename_i p q e1 e2
      exact op_neD (by omega) pins s σ H _ _ v u Q I rx ry ⟨p, q, Rs.dp d e1 hd, Rs.dp e e2 he, h.1, h.2.1, h.2.2⟩
    · exact h.elim
  · split at h
    · cases hd; cases he; exact op_lt pins s σ H _ _ v u Q I rx ry ⟨_, _, rfl, rfl, h⟩
    · exact h.elim
  · split at h
    · cases hd; cases he; exact op_le pins s σ H _ _ v u Q I rx ry ⟨_, _, rfl, rfl, h⟩
    · exact h.elim
  · split at h
    · cases hd; cases he; exact op_gt pins s σ H _ _ v u Q I rx ry ⟨_, _, rfl, rfl, h⟩
    · exact h.elim
  · split at h
    · cases hd; cases he; exact op_ge pins s σ H _ _ v u Q I rx ry ⟨_, _, rfl, rfl, h⟩
    · exact h.elim
  · split at h
    · cases he
      refine op_isN pins s σ H _ _ v u Q I rx ry ⟨rfl, ?_⟩
      have e : decide (x = V.non) = d.isNon := by cases hd <;> rfl
      rw [e]; exact h
    · exact h.elim
  · split at h
    · cases he
      refine op_notN pins s σ H _ _ v u Q I rx ry ⟨rfl, ?_⟩
      have e : decide (x = V.non) = d.isNon := by cases hd <;> rfl
      rw [e]; exact h
    · exact h.elim
  · unfold inW at h
    split at h
    · split at h
      · obtain ⟨c, rfl, h⟩ := h
        cases hd; cases he; exact op_in_sign pins s σ H _ _ v u Q I rx ry ⟨_, _, rfl, rfl, h⟩
      · exact h.elim
    · split at h
      · rename_i p qs e1 e2
        exact op_inD (by omega) pins s σ H _ _ v u Q I rx ry ⟨p, qs, Rs.dp d e1 hd, Rs.dp _ (p := .list qs) (by show (D.toPyL _).map PyData.list = _; rw [e2]; rfl) he, h.1, h.2.1, h.2.2⟩
      · exact h.elim
    · exact h.elim
  · unfold inW at h
    split at h
    · split at h
      · obtain ⟨c, rfl, h⟩ := h
        cases hd; cases he; exact op_notIn_sign pins s σ H _ _ v u Q I rx ry ⟨_, _, rfl, rfl, h⟩
      · exact h.elim
    · split at h
      · rename_i p qs e1 e2
        exact op_notInD (by omega) pins s σ H _ _ v u Q I rx ry ⟨p, qs, Rs.dp d e1 hd, Rs.dp _ (p := .list qs) (by show (D.toPyL _).map PyData.list = _; rw [e2]; rfl) he, h.1, h.2.1, h.2.2⟩
      · exact h.elim
    · exact h.elim
end
end DL
/-! DL4: what of the program's text an M stands for (mE); quiet reading is sound. -/
namespace DL
open PySem PySem.Spec PyProof.Rows L2

/-! ### the text -/
def visB (sc : Scope) (x : Str) : Bool := match sc.names.lookup x with
  | some .local => true
  | some .cell => true
  | some .free => true
  | _ => false
def gloB (sc : Scope) (x : Str) : Bool := match sc.names.lookup x with
  | some .globalImplicit => true
  | _ => false
def okN (x : Str) : Bool := !(x == ("__debug__" : Str)) && !(x == ("__classdict__" : Str)) && decide (x ≠ ("__name__" : Str))
/-- no star, no slice, no set -/
def plainE : Expr → Bool
  | .Starred .. => false
  | .Slice .. => false
  | .Set .. => false
  | _ => true
/-- no call of a bare name without arguments (super) -/
def baseE : Expr → Bool
  | .Call (.Name _ _) [] [] _ => false
  | _ => true
def isNoneE : Expr → Bool
  | .Constant .none _ _ => true
  | _ => false
def Bi.nm : Bi → Str
  | .len => "len" | .int => "int" | .min => "min" | .max => "max" | .all => "all"
def tyE (sc : Scope) : Ty → Expr → Bool
  | .bt n, .Name x _ => decide (x = Str.ofString n) && gloB sc x && (["int", "str", "bool", "list", "tuple", "dict"].contains n)
  | _, _ => false
def tysA (sc : Scope) : List Ty → List Expr → Bool
  | [], [] => true
  | t :: ts, e :: es => tyE sc t e && tysA sc ts es
  | _, _ => false
def tysE (sc : Scope) : List Ty → Expr → Bool
  | [t], .Name x p => tyE sc t (.Name x p)
  | ts, .Tuple es _ _ => !es.isEmpty && decide (es.length ≤ 8) && tysA sc ts es
  | _, _ => false
/-- may stand as a test -/
def M.tst : M → Bool
  | .ite _ _ _ => false
  | .neg _ => false
  | .frz _ => false
  | .mv _ => false
  | .not a => a.tst
  | .and a b => a.tst && b.tst
  | .or a b => a.tst && b.tst
  | _ => true
def locB (sc : Scope) (x : Str) : Bool := match sc.names.lookup x with
  | some .local => true
  | some .cell => true
  | _ => false
def mTg (N : List Str) : Tg → Scope → Expr → Bool
  | .nm i, sc, .Name x _ => decide (N[i]? = some x) && locB sc x
  | .cons t r, sc, .Tuple es _ _ => mTs N (.cons t r) sc es
  | _, _, _ => false
where mTs (N : List Str) : Tg → Scope → List Expr → Bool
  | .nil, _, [] => true
  | .cons t r, sc, e :: es => plainE e && mTg N t sc e && mTs N r sc es
  | _, _, _ => false
mutual
def ownT : Tg → Expr → List (Str × Nat)
  | .nm i, .Name x _ => [(x, i)]
  | .cons t r, .Tuple es _ _ => ownTs (.cons t r) es
  | _, _ => []
def ownTs : Tg → List Expr → List (Str × Nat)
  | .cons t r, e :: es => ownT t e ++ ownTs r es
  | _, _ => []
end
def M.tsts : M → Bool
  | .cons a .nil => a.tst
  | .nil => true
  | _ => false
mutual
def mE (N : List Str) : M → Scope → Expr → Bool
  | .var i, sc, .Name x _ => decide (N[i]? = some x) && visB sc x && okN x
  | .io i, sc, .Name x _ => decide (N[i]? = some x) && visB sc x && okN x
  | .num n, _, .Constant (.int k) _ _ => decide (n = k)
  | .txt s, _, .Constant (.str k) _ _ => decide (s = k)
  | .boo b, _, .Constant (.bool k) _ _ => decide (b = k)
  | .non, _, .Constant .none _ _ => true
  | .gcon x, sc, .Name y _ => decide (x = y) && gloB sc y && okN y
  | .bin o a b, sc, .BinOp e op f _ => decide (op = o.py) && mE N a sc e && mE N b sc f
  | .neg a, sc, .UnaryOp .USub e _ => mE N a sc e
  | .cmp o a b, sc, .Compare e [op] [f] _ => decide (op = o.py) && mE N a sc e && mE N b sc f && plainE f
  | .chn o o' a b c, sc, .Compare e [op, op'] [f, g] _ => decide (op = o.py) && decide (op' = o'.py) && mE N a sc e && mE N b sc f && mE N c sc g && plainE f && plainE g
  | .not a, sc, .UnaryOp .Not e _ => mE N a sc e
  | .and a b, sc, .BoolOp .And (e :: es) p => mE N a sc e && (match es with
      | [] => false
      | [f] => mE N b sc f
      | f :: f' :: fs => mE N b sc (.BoolOp .And (f :: f' :: fs) p))
  | .or a b, sc, .BoolOp .Or (e :: es) p => mE N a sc e && (match es with
      | [] => false
      | [f] => mE N b sc f
      | f :: f' :: fs => mE N b sc (.BoolOp .Or (f :: f' :: fs) p))
  | .ite c a b, sc, .IfExp e f g _ => c.tst && mE N c sc e && mE N a sc f && mE N b sc g
  | .lst as, sc, .List es _ => mA N as sc es
  | .tup as, sc, .Tuple es _ _ => mA N as sc es
  | .dic kvs, sc, .Dict ks vs _ => mD N kvs sc ks vs && decide (ks.length ≤ 15)
  | .ixL a i, sc, .Subscript e f _ => mE N a sc e && mE N i sc f && plainE f
  | .ixD a i, sc, .Subscript e f _ => mE N a sc e && mE N i sc f && plainE f
  | .sliS a lo hi, sc, .Subscript e (.Slice l h none _) _ => mE N a sc e && mO N lo sc l && mO N hi sc h
  | .bi f as, sc, .Call (.Name x _) es [] _ => decide (x = f.nm) && gloB sc x && mA N as sc es && !es.isEmpty
  | .isa a ts, sc, .Call (.Name x _) [e, c] [] _ => decide (x = ("isinstance" : Str)) && gloB sc x && mE N a sc e && plainE e && tysE sc ts c
  | .lstOf a, sc, .Call (.Name x _) [e] [] _ => decide (x = ("list" : Str)) && gloB sc x && mE N a sc e && plainE e
  | .rep a, sc, .Call (.Name x _) [e] [] _ => decide (x = ("repr" : Str)) && gloB sc x && mE N a sc e && plainE e
  | .join a b, sc, .Call (.Attribute o m q) [e] [] p => decide (m = ("join" : Str)) && mE N a sc o && baseE o && mE N b sc e && plainE e && (q.endLine == p.line)
  | .popAt pl i, sc, .Call (.Attribute o m q) [e] [] p => decide (m = ("pop" : Str)) && mE N pl sc o && baseE o && mE N i sc e && plainE e && (q.endLine == p.line)
  | .call f as kv sh, sc, .Call (.Name x _) es kws _ => decide (x = f) && gloB sc x && okN x && decide (kws.map (·.arg) = sh.ks.map some) && !(es.isEmpty && kws.isEmpty) && mA N as sc es && mA N kv sc (kws.map (·.value)) && decide (es.length = sh.n)
  | .comp t it src cond elt, sc, .ListComp e [⟨tg, i, ifs, 0⟩] scope _ => mTg N t scope tg && blkC N sc scope (ownT t tg) && plainE i && mI N it src sc i && mA N cond (relS scope sc) ifs && decide (ifs.length ≤ 1) && mE N elt (relS scope sc) e && decide ((ownT t tg).map (·.2) = t.slots) && (ifs.all fun c => cond.tsts)
  | .mv i, sc, .Name x _ => decide (N[i]? = some x) && visB sc x && okN x
  | .frz a, sc, e => mE N a sc e
  | _, _, _ => false
def mA (N : List Str) : M → Scope → List Expr → Bool
  | .nil, _, [] => true
  | .cons a as, sc, e :: es => plainE e && mE N a sc e && mA N as sc es
  | _, _, _ => false
def mD (N : List Str) : M → Scope → List (Option Expr) → List Expr → Bool
  | .nil, _, [], [] => true
  | .cons a as, sc, some k :: ks, v :: vs => mE N a sc k && (match as with
      | .cons b bs => mE N b sc v && mD N bs sc ks vs
      | _ => false)
  | _, _, _, _ => false
def mO (N : List Str) : M → Scope → Option Expr → Bool
  | .nil, _, none => true
  | .cons a .nil, sc, some e => mE N a sc e
  | _, _, _ => false
def mI (N : List Str) (it : It) : M → Scope → Expr → Bool
  | .cons a as, sc, e => match it with
    | .rng => (match e with
      | .Call (.Name x _) [f] [] _ => decide (x = ("range" : Str)) && gloB sc x && plainE f && mE N a sc f && mA N as sc []
      | _ => false)
    | .rng2 => (match e with
      | .Call (.Name x _) [f, g] [] _ => decide (x = ("range" : Str)) && gloB sc x && plainE f && mE N a sc f && mA N as sc [g]
      | _ => false)
    | _ => (match as with
      | .nil => mE N a sc e
      | _ => false)
  | _, _, _ => false
end

/-! ### where one stands -/
def biNames : List Str := ["len", "int", "min", "max", "all", "isinstance", "list", "repr", "range", "str", "bool", "tuple", "dict"]
structure Gq (T : Tab) (X : Cx) (N : List Str) (sc : Scope) : Prop where
  hN : X.N = N
  nd : N.Nodup
  sc : X.env.scope = sc
  calm : X.calm = true
  room : Room 4 X.A
  gd : X.A.guards = some []
  con : ∀ x d, T.con x = some d → ∃ u, X.mg x = some u ∧ RelV d.toV u
  bi : ∀ x ∈ biNames, X.mg x = none
section
variable {T : Tab} {cl : Str → Addr} {X : Cx} {N : List Str} {sc : Scope}
theorem Gq.un (G : Gq T X N sc) : X.A.units + 65 < cLine := by have := G.room.un; omega
theorem vis_of (G : Gq T X N sc) {x : Str} (h : visB sc x = true) : Vis X.env.scope x := by
  rw [G.sc]
  unfold visB at h
  split at h
  · exact .inl (by assumption)
  · exact .inr (.inl (by assumption))
  · exact .inr (.inr (by assumption))
  · cases h
theorem glo_of (G : Gq T X N sc) {x : Str} (h : gloB sc x = true) : Gl X x := by
  show X.env.scope.names.lookup x = some .globalImplicit
  rw [G.sc]
  unfold gloB at h
  split at h
  · assumption
  · cases h
theorem okN_of {x : Str} (h : okN x = true) : (x == ("__debug__" : Str)) = false ∧ (x == ("__classdict__" : Str)) = false ∧ x ≠ "__name__" := by
  unfold okN at h
  simp only [Bool.and_eq_true, Bool.not_eq_true', decide_eq_true_eq] at h
  exact ⟨h.1.1, h.1.2, h.2⟩
theorem star_of {e : Expr} {es : List Expr} {env : Env} (h : plainE e = true) : starEach (e :: es) env = (false, eval e env) :: starEach es env := by
  cases e <;> first | rfl | cases h
theorem mark_of {e : Expr} {op : CmpOp} (h : plainE e = true) : behindInMarks op e = false := by
  cases e <;> first | rfl | cases h
theorem ix_of {e : Expr} (h : plainE e = true) : ∀ o i, subscripted e false o i = operate [o, i] (getItem o i) := by
  cases e <;> first | (intro _ _; rfl) | cases h
theorem base_of {o : Expr} {m : Str} {env : Env} (h : baseE o = true) : attributeBase o m env (eval o env) = eval o env := by
  cases o with
  | Call f as ks p =>
    cases f with
    | Name x q =>
      cases as with
      | nil =>
        cases ks with
        | nil => cases h
        | cons _ _ => rfl
      | cons _ _ => rfl
    | _ => rfl
  | _ => rfl
theorem fold_of {e : Expr} {env : Env} (h : plainE e = true) : ∀ x, foldedSetIterable e env x = pure x := by
  cases e <;> first | (intro _; rfl) | cases h
theorem mA_plain {N : List Str} {sc : Scope} : ∀ {as : M} {es : List Expr}, mA N as sc es = true → ∀ e ∈ es, plainE e = true
  | .nil, [], _, e, h => by cases h
  | .cons a as, e0 :: es, h, e, he => by
    rw [mA] at h
    simp only [Bool.and_eq_true] at h
    rcases List.mem_cons.mp he with rfl | he
    · exact h.1.1
    · exact mA_plain h.2 e he
  | .nil, _ :: _, h, _, _ => by cases h
  | .var _, _, h, _, _ => by cases h
  | .io _, _, h, _, _ => by cases h
  | .num _, _, h, _, _ => by cases h
  | .txt _, _, h, _, _ => by cases h
  | .boo _, _, h, _, _ => by cases h
  | .non, _, h, _, _ => by cases h
  | .gcon _, _, h, _, _ => by cases h
  | .bin _ _ _, _, h, _, _ => by cases h
  | .neg _, _, h, _, _ => by cases h
  | .cmp _ _ _, _, h, _, _ => by cases h
  | .chn _ _ _ _ _, _, h, _, _ => by cases h
  | .not _, _, h, _, _ => by cases h
  | .and _ _, _, h, _, _ => by cases h
  | .or _ _, _, h, _, _ => by cases h
  | .ite _ _ _, _, h, _, _ => by cases h
  | .cons _ _, [], h, _, _ => by cases h
  | .lst _, _, h, _, _ => by cases h
  | .tup _, _, h, _, _ => by cases h
  | .dic _, _, h, _, _ => by cases h
  | .ixL _ _, _, h, _, _ => by cases h
  | .ixD _ _, _, h, _, _ => by cases h
  | .sliS _ _ _, _, h, _, _ => by cases h
  | .bi _ _, _, h, _, _ => by cases h
  | .isa _ _, _, h, _, _ => by cases h
  | .lstOf _, _, h, _, _ => by cases h
  | .join _ _, _, h, _, _ => by cases h
  | .call _ _ _ _, _, h, _, _ => by cases h
  | .comp _ _ _ _ _, _, h, _, _ => by cases h
  | .popAt _ _, _, h, _, _ => by cases h
  | .frz _, _, h, _, _ => by cases h
  | .mv _, _, h, _, _ => by cases h
  | .rep _, _, h, _, _ => by cases h
theorem nostar {es : List Expr} {env : Env} {pos : Pos} (h : ∀ e ∈ es, plainE e = true) : (backTo pos (starEach es env)).any (·.1) = false := by
  induction es with
  | nil => rfl
  | cons e es ih =>
    rw [star_of (h e List.mem_cons_self)]
    show (false || (backTo pos (starEach es env)).any (·.1)) = false
    rw [ih fun e he => h e (List.mem_cons_of_mem _ he)]
    rfl

/-! ### quiet reading -/
def Rdb (cl : Str → Addr) (σ : L2.St) (H : Hp) (ρ : DEnv) : Prop := ∀ (i : Nat) (d : D) (o : Ow), ρ[i]? = some (some (d, o)) → ∃ v, σ[i]? = some (some v) ∧ Rs cl all H d v
theorem Rdb.ext {σ : L2.St} {H H' : Hp} {ρ : DEnv} (R : Rdb cl σ H ρ) (s : Same H H') : Rdb cl σ H' ρ := fun i d o h => let ⟨v, h1, h2⟩ := R i d o h; ⟨v, h1, h2.ext s⟩
theorem Rst.rdb {b : Bs} {σ : L2.St} {H : Hp} {ρ : DEnv} {ts : List Cell} (R : Rst cl b σ H ρ ts) : Rdb cl σ H ρ := fun i d o h => by
  obtain ⟨S, F, fs, s, W⟩ := R
  obtain ⟨v, h1, h2⟩ := s.get h
  exact ⟨v, h2, W.read (cells_at h1)⟩
def tB (cl : Str → Addr) (T : Tab) (m : M) : TE := fun σ H Q => ∃ ρ k, Rdb cl σ H ρ ∧ wB T m ρ k ∧ ∀ d, k [d] → ∀ v H', Same H H' → Rs cl all H' d v → Q v H'
def tBA (cl : Str → Addr) (T : Tab) (m : M) : TA := fun σ H Q => ∃ ρ k, Rdb cl σ H ρ ∧ wB T m ρ k ∧ ∀ ds, k ds → ∀ vs H', Same H H' → RsL cl all H' ds vs → Q vs H'
def tBT (cl : Str → Addr) (T : Tab) (m : M) : TT := fun σ H Q => ∃ ρ k, Rdb cl σ H ρ ∧ wB T m ρ k ∧ ∀ d, k [d] → truthW d fun b => ∀ H', Same H H' → Q b H'
theorem PE.of {e : Expr} {t t' : TE} (h : PE X e t) (i : ∀ σ H Q, t' σ H Q → t σ H Q) : PE X e t' := ⟨fun pins s σ H Q I q => h.run pins s σ H Q I (i σ H Q q)⟩
theorem PT.of {e : Expr} {t t' : TT} (h : PT X e t) (i : ∀ σ H Q, t' σ H Q → t σ H Q) : PT X e t' := ⟨fun pins s σ H Q I q => h.run pins s σ H Q I (i σ H Q q)⟩
theorem PA.of {es : List Expr} {t t' : TA} (h : PA X es t) (i : ∀ σ H Q, t' σ H Q → t σ H Q) : PA X es t' := ⟨fun pos pins s σ H Q I q => h.run pos pins s σ H Q I (i σ H Q q)⟩
theorem flat_v {H : Hp} {d : D} {v : V} (h : Rs cl all H d v) (f : d.flat = true) : v = d.toV := h.flat cl f
end
end DL
/-! DL5: quiet reading is sound. -/
namespace DL
open PySem PySem.Spec PyProof.Rows L2
section
variable {T : Tab} {cl : Str → Addr} {N : List Str}
def plainTst : Expr → Bool
  | .UnaryOp .. => false
  | .BoolOp .. => false
  | .IfExp .. => false
  | .Compare .. => false
  | _ => true
theorem tru_of {e : Expr} {env : Env} (h : plainTst e = true) : ∀ whole, isTrue e env whole = (do let v ← whole; standAt e.pos; holding [v] (truthy v)) := by
  cases e <;> first | (intro _; rfl) | cases h
theorem pt_of {X : Cx} {e : Expr} {m : M} (h : PE X e (tB cl T m)) (hp : plainTst e = true) : PT X e (tBT cl T m) :=
  PT.of (pt_truth h (tru_of hp)) fun σ H Q ⟨ρ, k, R, w, f⟩ => ⟨ρ, k, R, w, fun d hk v H' s r => by
    obtain ⟨b, tv, q⟩ := truth_v (X := X) r (f d hk)
    exact ⟨b, tv, q H' s⟩⟩
/-- an operand, then another -/
theorem two {σ : L2.St} {H : Hp} {ρ : DEnv} {a b : M} {R2 : List D → List D → Prop} {Q : V → V → Hp → Prop} (R : Rdb cl σ H ρ) (w : wB T a ρ fun xs => wB T b ρ fun ys => R2 xs ys)
    (h : ∀ x y, R2 [x] [y] → ∀ v u H', Same H H' → Rs cl all H' x v → Rs cl all H' y u → Q v u H') : tB cl T a σ H fun v H1 => tB cl T b σ H1 fun u H2 => Q v u H2 :=
  ⟨ρ, _, R, w, fun x w1 v H1 s1 r1 => ⟨ρ, _, R.ext s1, w1, fun y w2 u H2 s2 r2 => h x y w2 v u H2 (s1.trans s2) (r1.ext s2) r2⟩⟩
theorem okname {X : Cx} {sc : Scope} (G : Gq T X N sc) {i : Nat} {x : Str} {pos : Pos} (h : (decide (N[i]? = some x) && visB sc x && okN x) = true) : PE X (.Name x pos) (tVar i) := by
  simp only [Bool.and_eq_true, decide_eq_true_eq] at h
  obtain ⟨h1, h2, _⟩ := okN_of h.2
  exact pe_var (by rw [G.hN]; exact h.1.1) (vis_of G h.1.2) h1 h2
theorem pe_gcon {X : Cx} {sc : Scope} (G : Gq T X N sc) {x y : Str} {d : D} {pos : Pos} (h : (decide (x = y) && gloB sc y && okN y) = true) (e : T.con x = some d) : PE X (.Name y pos) (tC d.toV) := by
  simp only [Bool.and_eq_true, decide_eq_true_eq] at h
  obtain ⟨⟨rfl, h1⟩, h2⟩ := h
  obtain ⟨u, hu, r⟩ := G.con x d e
  exact pe_glob (glo_of G h1) hu r (okN_of h2).1
def SnB (T : Tab) (cl : Str → Addr) (N : List Str) (m : M) : Prop :=
  ∀ (sc : Scope) (X : Cx), Gq T X N sc → m.quiet = true →
    (∀ e, mE N m sc e = true → PE X e (tB cl T m)) ∧ (∀ e, m.tst = true → mE N m sc e = true → PT X e (tBT cl T m)) ∧
    (∀ es, mA N m sc es = true → PA X es (tBA cl T m)) ∧
    ∀ o, mO N m sc o = true → PO X o (fun σ H Q => ∃ ρ k, Rdb cl σ H ρ ∧ wB T m ρ k ∧ ∀ ds, k ds → optI ds fun l => ∀ H', Same H H' → Q l H')
theorem dec_eq {α : Type} [DecidableEq α] {a b : α} (h : decide (a = b) = true) : a = b := of_decide_eq_true h
theorem ba {a b : Bool} (h : (a && b) = true) : a = true ∧ b = true := Bool.and_eq_true_iff.mp h
/-- the part of a slice -/
theorem po_nil {X : Cx} {o : Option Expr} {sc : Scope} (h : mO N .nil sc o = true) : PO X o (fun σ H Q => ∃ ρ k, Rdb cl σ H ρ ∧ wB T .nil ρ k ∧ ∀ ds, k ds → optI ds fun l => ∀ H', Same H H' → Q l H') := by
  cases o with
  | some e => cases h
  | none => exact ⟨fun pins s σ H Q I ⟨ρ, k, R, w, f⟩ => po_none.run pins s σ H Q I (f [] w H (Same.refl H))⟩
/-- scalar places of a name and the like -/
theorem pt_const {X : Cx} {e : Expr} {m : M} {sc : Scope} (h : mE N m sc e = true → PE X e (tB cl T m)) (hp : mE N m sc e = true → plainTst e = true) (hm : mE N m sc e = true) : PT X e (tBT cl T m) := pt_of (h hm) (hp hm)

theorem sOp_flat {o : BOp} {x y : D} {k : D → Prop} (h : sOp o x y k) : x.flat = true ∧ y.flat = true := by
  unfold sOp at h
  split at h <;> first | exact ⟨rfl, rfl⟩ | exact h.elim
theorem sOp_mono {o : BOp} {x y : D} {k k' : D → Prop} (h : sOp o x y k) (m : ∀ r, k r → k' r) : sOp o x y k' := by
  unfold sOp at h ⊢
  split at h <;> first | exact m _ h | exact ⟨h.1, m _ h.2⟩ | exact h.elim
theorem truth_mono {x : D} {k k' : Bool → Prop} (h : truthW x k) (m : ∀ r, k r → k' r) : truthW x k' := by
  unfold truthW at h ⊢
  split at h <;> first | exact m _ h | exact ⟨h.1, m _ h.2⟩ | exact h.elim
theorem eqW_mono {x y : D} {k k' : Bool → Prop} (h : eqW x y k) (m : ∀ r, k r → k' r) : eqW x y k' := by
  unfold eqW at h ⊢
  split at h
  · exact ⟨h.1, h.2.1, m _ h.2.2⟩
  · exact h.elim
theorem inW_mono {x y : D} {k k' : Bool → Prop} (h : inW x y k) (m : ∀ r, k r → k' r) : inW x y k' := by
  unfold inW at h ⊢
  split at h
  · split at h
    · obtain ⟨c, e, q⟩ := h; exact ⟨c, e, m _ q⟩
    · exact h.elim
  · split at h
    · exact ⟨h.1, h.2.1, m _ h.2.2⟩
    · exact h.elim
  · exact h.elim
theorem cmpW_mono {o : COp} {x y : D} {k k' : Bool → Prop} (h : cmpW o x y k) (m : ∀ r, k r → k' r) : cmpW o x y k' := by
  cases o with
  | eq => exact eqW_mono (show eqW x y k from h) m
  | ne => exact eqW_mono (k := fun b => k !b) (k' := fun b => k' !b) (show eqW x y _ from h) fun _ q => m _ q
  | in_ => exact inW_mono (show inW x y k from h) m
  | nin => exact inW_mono (k := fun b => k !b) (k' := fun b => k' !b) (show inW x y _ from h) fun _ q => m _ q
  | is => unfold cmpW at h ⊢; simp only at h ⊢; split at h <;> first | exact m _ h | exact h.elim
  | isnot => unfold cmpW at h ⊢; simp only at h ⊢; split at h <;> first | exact m _ h | exact h.elim
  | lt => unfold cmpW at h ⊢; simp only at h ⊢; split at h <;> first | exact m _ h | exact h.elim
  | le => unfold cmpW at h ⊢; simp only at h ⊢; split at h <;> first | exact m _ h | exact h.elim
  | gt => unfold cmpW at h ⊢; simp only at h ⊢; split at h <;> first | exact m _ h | exact h.elim
  | ge => unfold cmpW at h ⊢; simp only at h ⊢; split at h <;> first | exact m _ h | exact h.elim
/-- an item of what may be read -/
theorem ixL_v {X : Cx} {F : SetA} {H : Hp} {x y : D} {v u : V} {k : D → Prop} {Q : V → Prop} (hx : Rs cl F H x v) (hy : Rs cl F H y u) (h : ixLW x y k) (f : ∀ r w, k r → Rs cl F H r w → Q w) :
    (∃ p items i w, v = .ref p ∧ u = .int i ∧ (SqL X.K H p items ∨ SqT X.K H p items) ∧ atI items i = some w ∧ Q w) ∨ ∃ z i c, v = .str z ∧ u = .int i ∧ z.length ≤ sizeLine ∧ atI z.cps.toList i = some c ∧ Q (.str ⟨#[c]⟩) := by
  have at_v : ∀ {ds : List D} {vs : List V} {j : Int} {r : D}, ds.length = vs.length → (∀ (i : Nat) d v, ds[i]? = some d → vs[i]? = some v → Rs cl F H d v) → atI ds j = some r → ∃ w, atI vs j = some w ∧ Rs cl F H r w := by
    intro ds vs j r l c e
    unfold atI at e ⊢
    rw [← l]
    cases q : ixN ds.length j with
    | none => rw [q] at e; cases e
    | some n =>
      rw [q] at e
      have e' : ds[n]? = some r := e
      have hn : n < vs.length := by have := (List.getElem?_eq_some_iff.mp e').1; omega
      exact ⟨vs[n], List.getElem?_eq_getElem hn, c n r _ e' (List.getElem?_eq_getElem hn)⟩
  unfold ixLW at h
  split at h
  · obtain ⟨r, e, q⟩ := h
    cases hy
    cases hx with
    | @lst _ a vs _ rx l c =>
      obtain ⟨w, e', rr⟩ := at_v l c e
      exact .inl ⟨a, vs, _, w, rfl, rfl, .inl (.inl rx), e', f r w q rr⟩
  · obtain ⟨r, e, q⟩ := h
    cases hy
    cases hx with
    | @tup _ a vs _ rx l c =>
      obtain ⟨w, e', rr⟩ := at_v l c e
      exact .inl ⟨a, vs, _, w, rfl, rfl, .inr (.inl (.inl rx)), e', f r w q rr⟩
  · obtain ⟨hz, c, e, q⟩ := h
    cases hy
    cases hx
    exact .inr ⟨_, _, c, rfl, rfl, hz, e, f _ _ q (.str _)⟩
  · exact h.elim
theorem key_v {H : Hp} {y : D} {u : V} {key : Key} (hy : Rs cl all H y u) (e : y.toKey = some key) : u = kV key := by
  cases hy <;> first | (cases e; rfl) | cases e
theorem val_of {H : Hp} {kvs : List (Key × D)} {ws : List (Key × V)} {key : Key} {x : D} (l : kvs.map (·.1) = ws.map (·.1)) (c : ∀ (i : Nat) k d v, kvs[i]? = some (k, d) → ws[i]? = some (k, v) → Rs cl all H d v) (e : dget kvs key = some x) :
    ∃ w, valV ws key = some w ∧ Rs cl all H x w := by
  induction kvs generalizing ws with
  | nil => cases e
  | cons p r ih =>
    cases ws with
    | nil => cases l
    | cons q s =>
      obtain ⟨k, d⟩ := p
      obtain ⟨k', v⟩ := q
      simp only [List.map_cons, List.cons.injEq] at l
      obtain ⟨rfl, l⟩ := l
      by_cases hk : k = key
      · have e' : dget ((k, d) :: r) key = some d := by simp [dget, List.find?_cons, hk]
        rw [e'] at e
        cases e
        exact ⟨v, by simp [valV, List.find?_cons, hk], c 0 _ _ v rfl rfl⟩
      · have e' : dget ((k, d) :: r) key = dget r key := by simp [dget, List.find?_cons, hk]
        rw [e'] at e
        obtain ⟨w, h1, h2⟩ := ih (ws := s) l (fun i k d v h1 h2 => c (i + 1) k d v (by simpa using h1) (by simpa using h2)) e
        exact ⟨w, by rw [← h1]; simp [valV, List.find?_cons, hk], h2⟩

theorem no_mA {X : Cx} {m : M} {sc : Scope} (h : ∀ es, mA N m sc es = false) : ∀ es, mA N m sc es = true → PA X es (tBA cl T m) := fun es q => by rw [h es] at q; cases q
theorem no_mO {X : Cx} {m : M} {sc : Scope} {t : TO} (h : ∀ o, mO N m sc o = false) : ∀ o, mO N m sc o = true → PO X o t := fun o q => by rw [h o] at q; cases q
theorem no_mE {X : Cx} {m : M} {sc : Scope} {t : TE} (h : ∀ e, mE N m sc e = false) : ∀ e, mE N m sc e = true → PE X e t := fun e q => by rw [h e] at q; cases q
theorem no_mT {X : Cx} {m : M} {sc : Scope} {t : TT} (h : ∀ e, mE N m sc e = false) : ∀ e, m.tst = true → mE N m sc e = true → PT X e t := fun e _ q => by rw [h e] at q; cases q
theorem snb_nil : SnB T cl N .nil := fun sc X G _ => by
  refine ⟨no_mE (fun e => rfl), no_mT (fun e => rfl), fun es h => ?_, fun o h => po_nil h⟩
  cases es with
  | cons e es => cases h
  | nil => exact PA.of pa_nil fun σ H Q ⟨ρ, k, R, w, f⟩ => f [] w [] H (Same.refl H) RsL.nil
theorem snb_cons {a as : M} (ha : SnB T cl N a) (has : SnB T cl N as) : SnB T cl N (.cons a as) := fun sc X G hq => by
  obtain ⟨qa, qs⟩ := ba (show (a.quiet && as.quiet) = true from hq)
  refine ⟨no_mE (fun e => rfl), no_mT (fun e => rfl), fun es h => ?_, fun o h => ?_⟩
  · cases es with
    | nil => cases h
    | cons e es =>
      obtain ⟨h1, h2⟩ := ba (show (plainE e && mE N a sc e && mA N as sc es) = true from h)
      obtain ⟨h0, h1⟩ := ba h1
      refine PA.of (pa_cons ((ha sc X G qa).1 e h1) ((has sc X G qs).2.2.1 es h2) (star_of h0)) fun σ H Q ⟨ρ, k, R, w, f⟩ => ?_
      refine ⟨ρ, _, R, w, fun d w1 v H1 s1 r1 => ⟨ρ, _, R.ext s1, w1, fun ds w2 vs H2 s2 r2 => f _ w2 _ _ (s1.trans s2) (.cons (r1.ext s2) r2)⟩⟩
  · cases as with
    | nil =>
      cases o with
      | none => cases h
      | some e =>
        have q := (ha sc X G qa).1 e h
        refine ⟨fun pins s σ H Q I ⟨ρ, k, R, w, f⟩ => (po_some q).run pins s σ H Q I ?_⟩
        refine ⟨ρ, _, R, w, fun d w1 v H1 s1 r1 => ?_⟩
        have w2 : k [d] := w1
        have z := f [d] w2
        unfold optI at z
        split at z
        · rename_i e; cases e
        · rename_i e; cases e
          cases r1
          exact ⟨_, rfl, z H1 s1⟩
        · exact z.elim
    | _ => cases o <;> cases h
theorem snb_var {i : Nat} : SnB T cl N (.var i) := fun sc X G _ => by
  have key : ∀ e, mE N (.var i) sc e = true → PE X e (tB cl T (.var i)) := fun e h => by
    cases e with
    | Name x p =>
      refine PE.of (okname G h) fun σ H Q ⟨ρ, k, R, w, f⟩ => ?_
      have w' : (match ρ[i]? with | some (some (d, _)) => k [d] | _ => False) := w
      split at w'
      · rename_i d o e
        obtain ⟨v, h1, h2⟩ := R i d o e
        exact ⟨v, h1, f d w' v H (Same.refl H) h2⟩
      · exact w'.elim
    | _ => cases h
  refine ⟨key, fun e _ h => pt_of (key e h) ?_, no_mA fun es => rfl, no_mO fun o => rfl⟩
  cases e with
  | Name x p => rfl
  | _ => cases h
theorem snb_const {m : M} {d : D} (hw : ∀ ρ k, wB T m ρ k → k [d]) (hd : d.flat = true) (hp : ∀ (X : Cx) sc e, Gq T X N sc → mE N m sc e = true → PE X e (tC d.toV) ∧ plainTst e = true) (hA : ∀ sc es, mA N m sc es = false) (hO : ∀ sc o, mO N m sc o = false) : SnB T cl N m := fun sc X G _ => by
  have key : ∀ e, mE N m sc e = true → PE X e (tB cl T m) := fun e h => PE.of (hp X sc e G h).1 fun σ H Q ⟨ρ, k, R, w, f⟩ => f d (hw ρ k w) _ H (Same.refl H) (Rs.of_flat cl hd)
  exact ⟨key, fun e _ h => pt_of (key e h) (hp X sc e G h).2, no_mA (hA sc), no_mO (hO sc)⟩
theorem snb_num {n : Int} : SnB T cl N (.num n) := snb_const (d := .int n) (fun _ _ w => w) rfl (fun X sc e G h => by
  cases e with
  | Constant c j p =>
    cases c with
    | int i =>
      cases dec_eq (show decide (n = i) = true from h)
      exact ⟨pe_int, rfl⟩
    | _ => cases h
  | _ => cases h) (fun _ _ => rfl) fun _ _ => rfl
theorem snb_txt {s : Str} : SnB T cl N (.txt s) := snb_const (d := .str s) (fun _ _ w => w) rfl (fun X sc e G h => by
  cases e with
  | Constant c j p =>
    cases c with
    | str i =>
      cases dec_eq (show decide (s = i) = true from h)
      exact ⟨pe_str, rfl⟩
    | _ => cases h
  | _ => cases h) (fun _ _ => rfl) fun _ _ => rfl
theorem snb_boo {b : Bool} : SnB T cl N (.boo b) := snb_const (d := .bl b) (fun _ _ w => w) rfl (fun X sc e G h => by
  cases e with
  | Constant c j p =>
    cases c with
    | bool i =>
      cases dec_eq (show decide (b = i) = true from h)
      exact ⟨pe_bl, rfl⟩
    | _ => cases h
  | _ => cases h) (fun _ _ => rfl) fun _ _ => rfl
theorem snb_non : SnB T cl N .non := snb_const (d := .non) (fun _ _ w => w) rfl (fun X sc e G h => by
  cases e with
  | Constant c j p =>
    cases c with
    | none => exact ⟨pe_non, rfl⟩
    | _ => cases h
  | _ => cases h) (fun _ _ => rfl) fun _ _ => rfl
theorem snb_gcon {x : Str} : SnB T cl N (.gcon x) := fun sc X G _ => by
  have key : ∀ e, mE N (.gcon x) sc e = true → PE X e (tB cl T (.gcon x)) := fun e h => by
    cases e with
    | Name y p =>
      cases q : T.con x with
      | none =>
        refine ⟨fun pins s σ H Q I ⟨ρ, k, R, w, f⟩ => ?_⟩
        have w' : (match T.con x with | some d => d.flat = true ∧ k [d] | none => False) := w
        rw [q] at w'
        exact w'.elim
      | some d =>
        refine PE.of (pe_gcon G h q) fun σ H Q ⟨ρ, k, R, w, f⟩ => ?_
        have w' : (match T.con x with | some d => d.flat = true ∧ k [d] | none => False) := w
        rw [q] at w'
        exact f d w'.2 _ H (Same.refl H) (Rs.of_flat cl w'.1)
    | _ => cases h
  refine ⟨key, fun e _ h => pt_of (key e h) ?_, no_mA fun es => rfl, no_mO fun o => rfl⟩
  cases e with
  | Name x p => rfl
  | _ => cases h
theorem snb_bin {o : BOp} {a b : M} (ha : SnB T cl N a) (hb : SnB T cl N b) : SnB T cl N (.bin o a b) := fun sc X G hq => by
  obtain ⟨qa, qb⟩ := ba (show (a.quiet && b.quiet) = true from hq)
  have key : ∀ e, mE N (.bin o a b) sc e = true → PE X e (tB cl T (.bin o a b)) := fun e h => by
    cases e with
    | BinOp e op f p =>
      obtain ⟨h, h3⟩ := ba (show (decide (op = o.py) && mE N a sc e && mE N b sc f) = true from h)
      obtain ⟨h1, h2⟩ := ba h
      cases dec_eq h1
      refine PE.of (pe_op (op_s o) ((ha sc X G qa).1 e h2) ((hb sc X G qb).1 f h3)) fun σ H Q ⟨ρ, k, R, w, fin⟩ => ?_
      refine two R w fun x y w2 v u H' s r1 r2 => ?_
      have w3 : sOp o x y fun r => k [r] := w2
      obtain ⟨f1, f2⟩ := sOp_flat w3
      exact ⟨x, y, flat_v r1 f1, flat_v r2 f2, sOp_mono w3 fun r kr fr => fin r kr _ H' s (Rs.of_flat cl fr)⟩
    | _ => cases h
  refine ⟨key, fun e _ h => pt_of (key e h) ?_, no_mA fun es => rfl, no_mO fun o => rfl⟩
  cases e with
  | BinOp e op f p => rfl
  | _ => cases h
theorem snb_neg {a : M} (ha : SnB T cl N a) : SnB T cl N (.neg a) := fun sc X G hq => by
  have key : ∀ e, mE N (.neg a) sc e = true → PE X e (tB cl T (.neg a)) := fun e h => by
    cases e with
    | UnaryOp op e p =>
      cases op with
      | USub =>
        refine PE.of (pe_un un_neg ((ha sc X G hq).1 e h)) fun σ H Q ⟨ρ, k, R, w, fin⟩ => ?_
        refine ⟨ρ, _, R, w, fun x w1 v H' s r => ?_⟩
        cases r with
        | int i => exact ⟨i, rfl, fin _ w1 _ H' s (.int _)⟩
        | _ => exact w1.elim
      | _ => cases h
    | _ => cases h
  exact ⟨key, (fun e h _ => by cases h), no_mA fun es => rfl, no_mO fun o => rfl⟩
theorem snb_cmp {o : COp} {a b : M} (ha : SnB T cl N a) (hb : SnB T cl N b) : SnB T cl N (.cmp o a b) := fun sc X G hq => by
  obtain ⟨qa, qb⟩ := ba (show (a.quiet && b.quiet) = true from hq)
  have inv : ∀ e, mE N (.cmp o a b) sc e = true → ∃ e1 f p, e = .Compare e1 [o.py] [f] p ∧ mE N a sc e1 = true ∧ mE N b sc f = true ∧ plainE f = true := fun e h => by
    cases e with
    | Compare e ops fs p =>
      cases ops with
      | nil => cases h
      | cons op ops =>
        cases ops with
        | cons _ _ => cases h
        | nil =>
          cases fs with
          | nil => cases h
          | cons f fs =>
            cases fs with
            | cons _ _ => cases h
            | nil =>
              obtain ⟨h, h4⟩ := ba (show (decide (op = o.py) && mE N a sc e && mE N b sc f && plainE f) = true from h)
              obtain ⟨h, h3⟩ := ba h
              obtain ⟨h1, h2⟩ := ba h
              cases dec_eq h1
              exact ⟨e, f, p, rfl, h2, h3, h4⟩
    | _ => cases h
  refine ⟨fun e h => ?_, fun e _ h => ?_, no_mA fun es => rfl, no_mO fun o => rfl⟩
  · obtain ⟨e, f, p, rfl, h1, h2, h3⟩ := inv e h
    refine PE.of (pe_cmpR (op_c (cl := cl) G.un o) ((ha sc X G qa).1 e h1) ((hb sc X G qb).1 f h2) (mark_of h3)) fun σ H Q ⟨ρ, k, R, w, fin⟩ => ?_
    refine two R w fun x y w2 v u H' s r1 r2 => ⟨x, y, r1, r2, cmpW_mono (show cmpW o x y fun r => k [.bl r] from w2) fun r kr => fin _ kr _ H' s (.bl _)⟩
  · obtain ⟨e, f, p, rfl, h1, h2, h3⟩ := inv e h
    refine PT.of (pt_cmpR (op_c (cl := cl) G.un o) ((ha sc X G qa).1 e h1) ((hb sc X G qb).1 f h2) (mark_of h3)) fun σ H Q ⟨ρ, k, R, w, fin⟩ => ?_
    exact two R w fun x y w2 v u H' s r1 r2 => ⟨x, y, r1, r2, cmpW_mono (show cmpW o x y fun r => k [.bl r] from w2) fun r kr => ⟨r, rfl, (fin _ kr : truthW (.bl r) _) H' s⟩⟩
theorem snb_chn {o o' : COp} {a b c : M} (ha : SnB T cl N a) (hb : SnB T cl N b) (hc : SnB T cl N c) : SnB T cl N (.chn o o' a b c) := fun sc X G hq => by
  obtain ⟨hq, qc⟩ := ba (show (a.quiet && b.quiet && c.quiet) = true from hq)
  obtain ⟨qa, qb⟩ := ba hq
  have inv : ∀ e, mE N (.chn o o' a b c) sc e = true → ∃ e1 f g p, e = .Compare e1 [o.py, o'.py] [f, g] p ∧ mE N a sc e1 = true ∧ mE N b sc f = true ∧ mE N c sc g = true ∧ plainE f = true ∧ plainE g = true := fun e h => by
    cases e with
    | Compare e ops fs p =>
      match ops, fs, h with
      | [op, op'], [f, g], h =>
        obtain ⟨h, h7⟩ := ba (show (decide (op = o.py) && decide (op' = o'.py) && mE N a sc e && mE N b sc f && mE N c sc g && plainE f && plainE g) = true from h)
        obtain ⟨h, h6⟩ := ba h
        obtain ⟨h, h5⟩ := ba h
        obtain ⟨h, h4⟩ := ba h
        obtain ⟨h, h3⟩ := ba h
        obtain ⟨h1, h2⟩ := ba h
        cases dec_eq h1
        cases dec_eq h2
        exact ⟨e, f, g, p, rfl, h3, h4, h5, h6, h7⟩
      | [], _, h => cases h
      | [_], _, h => cases h
      | _ :: _ :: _ :: _, _, h => cases h
      | [_, _], [], h => cases h
      | [_, _], [_], h => cases h
      | [_, _], _ :: _ :: _ :: _, h => cases h
    | _ => cases h
  have core : ∀ {σ : L2.St} {H : Hp} {ρ : DEnv} {k : List D → Prop} {Q : V → Hp → Prop} {tc : TE}, Rdb cl σ H ρ → wB T (.chn o o' a b c) ρ k → (∀ {H' : Hp} {Q' : V → Hp → Prop}, Same H H' → tB cl T c σ H' Q' → tc σ H' Q') →
      (∀ r H', k [.bl r] → Same H H' → Q (.bl r) H') → tChain (fun x y H Q => ∃ d e, Rs cl all H d x ∧ Rs cl all H e y ∧ cmpW o d e fun r => Q (.bl r) H) (fun x y H Q => ∃ d e, Rs cl all H d x ∧ Rs cl all H e y ∧ cmpW o' d e fun r => Q (.bl r) H) (tB cl T a) (tB cl T b) tc σ H Q := by
    intro σ H ρ k Q tc R w htc fin
    refine two R w fun x y w2 v u H' s r1 r2 => ⟨x, y, r1, r2, cmpW_mono (show cmpW o x y fun r => if r = true then wB T c ρ fun zs => (match zs with | [z] => cmpW o' y z fun r => k [.bl r] | _ => False) else k [.bl false] from w2) fun r kr => ⟨r, rfl, ?_⟩⟩
    cases r with
    | true => 
      have kr' : wB T c ρ fun zs => (match zs with | [z] => cmpW o' y z fun r => k [.bl r] | _ => False) := kr
      exact htc s ⟨ρ, _, R.ext s, kr', fun z w3 t H2 s2 r3 => ⟨y, z, r2.ext s2, r3, cmpW_mono (show cmpW o' y z fun r => k [.bl r] from w3) fun r kr => fin r H2 kr (s.trans s2)⟩⟩
    | false => exact fin false H' kr s
  refine ⟨fun e h => ?_, fun e _ h => ?_, no_mA fun es => rfl, no_mO fun o => rfl⟩
  · obtain ⟨e, f, g, p, rfl, h1, h2, h3, h4, h5⟩ := inv e h
    refine PE.of (pe_chain (op_c (cl := cl) G.un o) (op_c (cl := cl) G.un o') ((ha sc X G qa).1 e h1) ((hb sc X G qb).1 f h2) ((hc sc X G qc).1 g h3) (mark_of h5)) fun σ H Q ⟨ρ, k, R, w, fin⟩ => ?_
    exact core R w (fun _ q => q) fun r H' kr s => fin _ kr _ H' s (.bl _)
  · obtain ⟨e, f, g, p, rfl, h1, h2, h3, h4, h5⟩ := inv e h
    refine PT.of (pt_chain (op_c (cl := cl) G.un o) (op_c (cl := cl) G.un o') ((ha sc X G qa).1 e h1) ((hb sc X G qb).1 f h2) ((hc sc X G qc).1 g h3) (mark_of h5)) fun σ H Q ⟨ρ, k, R, w, fin⟩ => ?_
    exact core R w (fun _ q => q) fun r H' kr s => ⟨r, rfl, (fin _ kr : truthW (.bl r) _) H' s⟩
theorem snb_not {a : M} (ha : SnB T cl N a) : SnB T cl N (.not a) := fun sc X G hq => by
  refine ⟨fun e h => ?_, fun e ht h => ?_, no_mA fun es => rfl, no_mO fun o => rfl⟩
  · cases e with
    | UnaryOp op e p =>
      cases op with
      | Not =>
        refine PE.of (pe_notT ((ha sc X G hq).1 e h)) fun σ H Q ⟨ρ, k, R, w, fin⟩ => ?_
        refine ⟨ρ, _, R, w, fun x w1 v H' s r => ?_⟩
        obtain ⟨b, tv, q⟩ := truth_v (X := X) r (show truthW x fun b => k [.bl !b] from w1)
        exact ⟨b, tv, fin _ q _ H' s (.bl _)⟩
      | _ => cases h
    | _ => cases h
  · cases e with
    | UnaryOp op e p =>
      cases op with
      | Not =>
        refine PT.of (pt_not ((ha sc X G hq).2.1 e ht h)) fun σ H Q ⟨ρ, k, R, w, fin⟩ => ?_
        refine ⟨ρ, _, R, w, fun x w1 => truth_mono (show truthW x fun b => k [.bl !b] from w1) fun b kb H' s => (fin _ kb : truthW (.bl !b) _) H' s⟩
      | _ => cases h
    | _ => cases h
theorem pw_of {X : Cx} {op : BoolOp} {es : List Expr} {p : Pos} {t : TT} (h : PT X (.BoolOp op es p) t) : PW X (.BoolOp op es p) t := ⟨fun _ pins s σ H Q I q => h.run pins s σ H Q I q⟩
theorem and_inv {a b : M} {sc : Scope} {e : Expr} (h : mE N (.and a b) sc e = true) : ∃ e1 p, mE N a sc e1 = true ∧ ((∃ f, e = .BoolOp .And [e1, f] p ∧ mE N b sc f = true) ∨ ∃ f f' fs, e = .BoolOp .And (e1 :: f :: f' :: fs) p ∧ mE N b sc (.BoolOp .And (f :: f' :: fs) p) = true) := by
  cases e with
  | BoolOp op es p =>
    cases op with
    | And =>
      match es, h with
      | [], h => cases h
      | [_], h => have := (ba h).2; cases this
      | [e1, f], h => exact ⟨e1, p, (ba h).1, .inl ⟨f, rfl, (ba h).2⟩⟩
      | e1 :: f :: f' :: fs, h => exact ⟨e1, p, (ba h).1, .inr ⟨f, f', fs, rfl, (ba h).2⟩⟩
    | _ => cases h
  | _ => cases h
theorem or_inv {a b : M} {sc : Scope} {e : Expr} (h : mE N (.or a b) sc e = true) : ∃ e1 p, mE N a sc e1 = true ∧ ((∃ f, e = .BoolOp .Or [e1, f] p ∧ mE N b sc f = true) ∨ ∃ f f' fs, e = .BoolOp .Or (e1 :: f :: f' :: fs) p ∧ mE N b sc (.BoolOp .Or (f :: f' :: fs) p) = true) := by
  cases e with
  | BoolOp op es p =>
    cases op with
    | Or =>
      match es, h with
      | [], h => cases h
      | [_], h => have := (ba h).2; cases this
      | [e1, f], h => exact ⟨e1, p, (ba h).1, .inl ⟨f, rfl, (ba h).2⟩⟩
      | e1 :: f :: f' :: fs, h => exact ⟨e1, p, (ba h).1, .inr ⟨f, f', fs, rfl, (ba h).2⟩⟩
    | _ => cases h
  | _ => cases h
theorem snb_and {a b : M} (ha : SnB T cl N a) (hb : SnB T cl N b) : SnB T cl N (.and a b) := fun sc X G hq => by
  obtain ⟨qa, qb⟩ := ba (show (a.quiet && b.quiet) = true from hq)
  have core : ∀ {σ : L2.St} {H : Hp} {Q : VK}, tB cl T (.and a b) σ H Q → tAndV (tB cl T a) (tB cl T b) σ H Q := fun {σ H Q} ⟨ρ, k, R, w, fin⟩ => by
    refine ⟨ρ, _, R, w, fun x w1 v H' s r => ?_⟩
    cases r with
    | bl c =>
      refine ⟨c, rfl, ?_⟩
      have w2 : if c = true then wB T b ρ k else k [.bl false] := w1
      cases c with
      | true => exact ⟨ρ, k, R.ext s, w2, fun d kd v2 H2 s2 r2 => fin d kd v2 H2 (s.trans s2) r2⟩
      | false => exact fin _ w2 _ H' s (.bl _)
    | _ => exact w1.elim
  have coreT : ∀ {σ : L2.St} {H : Hp} {Q : Bool → Hp → Prop}, tBT cl T (.and a b) σ H Q → tAnd (tBT cl T a) (tBT cl T b) σ H Q := fun {σ H Q} ⟨ρ, k, R, w, fin⟩ => by
    refine ⟨ρ, _, R, w, fun x w1 => ?_⟩
    cases x with
    | bl c =>
      intro H' s
      have w2 : if c = true then wB T b ρ k else k [.bl false] := w1
      cases c with
      | true => exact ⟨ρ, k, R.ext s, w2, fun d kd => truth_mono (fin d kd) fun b q H2 s2 => q H2 (s.trans s2)⟩
      | false => exact (fin _ w2 : truthW (.bl false) _) H' s
    | _ => exact w1.elim
  refine ⟨fun e h => ?_, fun e ht h => ?_, no_mA fun es => rfl, no_mO fun o => rfl⟩
  · obtain ⟨e1, p, h1, ⟨f, rfl, h2⟩ | ⟨f, f', fs, rfl, h2⟩⟩ := and_inv h
    · exact PE.of (pe_and ((ha sc X G qa).1 _ h1) (pe_one ((hb sc X G qb).1 _ h2))) fun _ _ _ q => core q
    · exact PE.of (pe_and ((ha sc X G qa).1 _ h1) ((hb sc X G qb).1 _ h2)) fun _ _ _ q => core q
  · obtain ⟨ta, tb⟩ := ba (show (a.tst && b.tst) = true from ht)
    obtain ⟨e1, p, h1, ⟨f, rfl, h2⟩ | ⟨f, f', fs, rfl, h2⟩⟩ := and_inv h
    · exact PT.of (PW.pt (pw_and ((ha sc X G qa).2.1 _ ta h1) (pw_and1 ((hb sc X G qb).2.1 _ tb h2)))) fun _ _ _ q => coreT q
    · exact PT.of (PW.pt (pw_and ((ha sc X G qa).2.1 _ ta h1) (pw_of ((hb sc X G qb).2.1 _ tb h2)))) fun _ _ _ q => coreT q
theorem snb_or {a b : M} (ha : SnB T cl N a) (hb : SnB T cl N b) : SnB T cl N (.or a b) := fun sc X G hq => by
  obtain ⟨qa, qb⟩ := ba (show (a.quiet && b.quiet) = true from hq)
  have core : ∀ {σ : L2.St} {H : Hp} {Q : VK}, tB cl T (.or a b) σ H Q → tOrV (tB cl T a) (tB cl T b) σ H Q := fun {σ H Q} ⟨ρ, k, R, w, fin⟩ => by
    refine ⟨ρ, _, R, w, fun x w1 v H' s r => ?_⟩
    cases r with
    | bl c =>
      refine ⟨c, rfl, ?_⟩
      have w2 : if c = true then k [.bl true] else wB T b ρ k := w1
      cases c with
      | false => exact ⟨ρ, k, R.ext s, w2, fun d kd v2 H2 s2 r2 => fin d kd v2 H2 (s.trans s2) r2⟩
      | true => exact fin _ w2 _ H' s (.bl _)
    | _ => exact w1.elim
  have coreT : ∀ {σ : L2.St} {H : Hp} {Q : Bool → Hp → Prop}, tBT cl T (.or a b) σ H Q → tOr (tBT cl T a) (tBT cl T b) σ H Q := fun {σ H Q} ⟨ρ, k, R, w, fin⟩ => by
    refine ⟨ρ, _, R, w, fun x w1 => ?_⟩
    cases x with
    | bl c =>
      intro H' s
      have w2 : if c = true then k [.bl true] else wB T b ρ k := w1
      cases c with
      | false => exact ⟨ρ, k, R.ext s, w2, fun d kd => truth_mono (fin d kd) fun b q H2 s2 => q H2 (s.trans s2)⟩
      | true => exact (fin _ w2 : truthW (.bl true) _) H' s
    | _ => exact w1.elim
  refine ⟨fun e h => ?_, fun e ht h => ?_, no_mA fun es => rfl, no_mO fun o => rfl⟩
  · obtain ⟨e1, p, h1, ⟨f, rfl, h2⟩ | ⟨f, f', fs, rfl, h2⟩⟩ := or_inv h
    · exact PE.of (pe_or ((ha sc X G qa).1 _ h1) (pe_one ((hb sc X G qb).1 _ h2))) fun _ _ _ q => core q
    · exact PE.of (pe_or ((ha sc X G qa).1 _ h1) ((hb sc X G qb).1 _ h2)) fun _ _ _ q => core q
  · obtain ⟨ta, tb⟩ := ba (show (a.tst && b.tst) = true from ht)
    obtain ⟨e1, p, h1, ⟨f, rfl, h2⟩ | ⟨f, f', fs, rfl, h2⟩⟩ := or_inv h
    · exact PT.of (PW.pt (pw_or ((ha sc X G qa).2.1 _ ta h1) (pw_or1 ((hb sc X G qb).2.1 _ tb h2)))) fun _ _ _ q => coreT q
    · exact PT.of (PW.pt (pw_or ((ha sc X G qa).2.1 _ ta h1) (pw_of ((hb sc X G qb).2.1 _ tb h2)))) fun _ _ _ q => coreT q
theorem snb_ite {c a b : M} (hc : SnB T cl N c) (ha : SnB T cl N a) (hb : SnB T cl N b) : SnB T cl N (.ite c a b) := fun sc X G hq => by
  obtain ⟨hq, qb⟩ := ba (show (c.quiet && a.quiet && b.quiet) = true from hq)
  obtain ⟨qc, qa⟩ := ba hq
  refine ⟨fun e h => ?_, (fun e ht _ => by cases ht), no_mA fun es => rfl, no_mO fun o => rfl⟩
  cases e with
  | IfExp e f g p =>
    obtain ⟨h, h4⟩ := ba (show (c.tst && mE N c sc e && mE N a sc f && mE N b sc g) = true from h)
    obtain ⟨h, h3⟩ := ba h
    obtain ⟨h1, h2⟩ := ba h
    refine PE.of (pe_ifExp ((hc sc X G qc).2.1 e h1 h2) ((ha sc X G qa).1 f h3) ((hb sc X G qb).1 g h4)) fun σ H Q ⟨ρ, k, R, w, fin⟩ => ?_
    refine ⟨ρ, _, R, w, fun x w1 => truth_mono (show truthW x fun t => if t = true then wB T a ρ k else wB T b ρ k from w1) fun t w2 H' s => ?_⟩
    cases t with
    | true => exact ⟨ρ, k, R.ext s, w2, fun d kd v2 H2 s2 r2 => fin d kd v2 H2 (s.trans s2) r2⟩
    | false => exact ⟨ρ, k, R.ext s, w2, fun d kd v2 H2 s2 r2 => fin d kd v2 H2 (s.trans s2) r2⟩
  | _ => cases h

theorem Rs.lst_new {H : Hp} {ds : List D} {vs : List V} {p : Addr} (r : RsL cl all H ds vs) (hp : H p = none) : Same H (upd H p (.lst vs)) ∧ Rs cl all (upd H p (.lst vs)) (.lst ds) (.ref p) := by
  have s : Same H (upd H p (.lst vs)) := fun b o e => by rw [upd_ne (ne_of_none e hp)]; exact e
  exact ⟨s, .lst trivial (Rx.of upd_same) r.1 (r.ext s).2⟩
theorem Rs.tup_new {H : Hp} {ds : List D} {vs : List V} {p : Addr} (r : RsL cl all H ds vs) (hp : H p = none) : Same H (upd H p (.tup vs)) ∧ Rs cl all (upd H p (.tup vs)) (.tup ds) (.ref p) := by
  have s : Same H (upd H p (.tup vs)) := fun b o e => by rw [upd_ne (ne_of_none e hp)]; exact e
  exact ⟨s, .tup trivial (Rx.of upd_same) r.1 (r.ext s).2⟩
theorem snb_lst {as : M} (ha : SnB T cl N as) : SnB T cl N (.lst as) := fun sc X G hq => by
  have key : ∀ e, mE N (.lst as) sc e = true → PE X e (tB cl T (.lst as)) := fun e h => by
    cases e with
    | List es p =>
      refine PE.of (pe_lst ((ha sc X G hq).2.2.1 es h)) fun σ H Q ⟨ρ, k, R, w, fin⟩ => ?_
      refine ⟨ρ, _, R, w, fun ds w1 vs H' s r => ?_⟩
      refine ⟨by rw [← r.1]; exact w1.1, fun p hp => ?_⟩
      obtain ⟨s2, r2⟩ := Rs.lst_new r hp
      exact fin _ w1.2 _ _ (s.trans s2) r2
    | _ => cases h
  refine ⟨key, fun e _ h => pt_of (key e h) ?_, no_mA fun es => rfl, no_mO fun o => rfl⟩
  cases e with
  | List _ _ => rfl
  | _ => cases h
theorem snb_tup {as : M} (ha : SnB T cl N as) : SnB T cl N (.tup as) := fun sc X G hq => by
  have key : ∀ e, mE N (.tup as) sc e = true → PE X e (tB cl T (.tup as)) := fun e h => by
    cases e with
    | Tuple es k p =>
      refine PE.of (pe_tup ((ha sc X G hq).2.2.1 es h)) fun σ H Q ⟨ρ, k, R, w, fin⟩ => ?_
      refine ⟨ρ, _, R, w, fun ds w1 vs H' s r => ?_⟩
      refine ⟨by rw [← r.1]; exact w1.1, fun p hp => ?_⟩
      obtain ⟨s2, r2⟩ := Rs.tup_new r hp
      exact fin _ w1.2 _ _ (s.trans s2) r2
    | _ => cases h
  refine ⟨key, fun e _ h => pt_of (key e h) ?_, no_mA fun es => rfl, no_mO fun o => rfl⟩
  cases e with
  | Tuple _ _ _ => rfl
  | _ => cases h
theorem ix_any {X : Cx} : IxR X (fun x y H Q => (∃ p items i w, x = .ref p ∧ y = .int i ∧ (SqL X.K H p items ∨ SqT X.K H p items) ∧ atI items i = some w ∧ Q w H) ∨ ∃ z i c, x = .str z ∧ y = .int i ∧ z.length ≤ sizeLine ∧ atI z.cps.toList i = some c ∧ Q (.str ⟨#[c]⟩) H) := by
  intro value slice pins s σ H x y v u Q I rx ry h hs
  rcases h with ⟨p, items, i, w, e1, e2, hl | ht, ha, q⟩ | h
  · exact ix_list value slice pins s σ H x y v u Q I rx ry ⟨p, items, i, w, e1, e2, hl, ha, q⟩ hs
  · exact ix_tup value slice pins s σ H x y v u Q I rx ry ⟨p, items, i, w, e1, e2, ht, ha, q⟩ hs
  · exact ix_str value slice pins s σ H x y v u Q I rx ry h hs
theorem snb_ixL {a i : M} (ha : SnB T cl N a) (hi : SnB T cl N i) : SnB T cl N (.ixL a i) := fun sc X G hq => by
  obtain ⟨qa, qi⟩ := ba (show (a.quiet && i.quiet) = true from hq)
  have key : ∀ e, mE N (.ixL a i) sc e = true → PE X e (tB cl T (.ixL a i)) := fun e h => by
    cases e with
    | Subscript e f p =>
      obtain ⟨h, h3⟩ := ba (show (mE N a sc e && mE N i sc f && plainE f) = true from h)
      obtain ⟨h1, h2⟩ := ba h
      refine PE.of (pe_ix ix_any ((ha sc X G qa).1 e h1) ((hi sc X G qi).1 f h2) (ix_of h3)) fun σ H Q ⟨ρ, k, R, w, fin⟩ => ?_
      exact two R w fun x y w2 v u H' s r1 r2 => ixL_v (X := X) r1 r2 (show ixLW x y fun r => k [r] from w2) fun r z kr rz => fin r kr z H' s rz
    | _ => cases h
  refine ⟨key, fun e _ h => pt_of (key e h) ?_, no_mA fun es => rfl, no_mO fun o => rfl⟩
  cases e with
  | Subscript _ _ _ => rfl
  | _ => cases h
theorem snb_ixD {a i : M} (ha : SnB T cl N a) (hi : SnB T cl N i) : SnB T cl N (.ixD a i) := fun sc X G hq => by
  obtain ⟨qa, qi⟩ := ba (show (a.quiet && i.quiet) = true from hq)
  have key : ∀ e, mE N (.ixD a i) sc e = true → PE X e (tB cl T (.ixD a i)) := fun e h => by
    cases e with
    | Subscript e f p =>
      obtain ⟨h, h3⟩ := ba (show (mE N a sc e && mE N i sc f && plainE f) = true from h)
      obtain ⟨h1, h2⟩ := ba h
      refine PE.of (pe_dget (by have := G.un; omega) ((ha sc X G qa).1 e h1) ((hi sc X G qi).1 f h2) (ix_of h3)) fun σ H Q ⟨ρ, k, R, w, fin⟩ => ?_
      refine two R w fun x y w2 v u H' s r1 r2 => ?_
      have w3 : ixDW x y fun _ r => k [r] := w2
      unfold ixDW at w3
      split at w3
      · obtain ⟨key, z, e1, e2, kz⟩ := w3
        cases r1 with
        | @dic kvs a ws _ rx l c =>
          obtain ⟨t, e3, rt⟩ := val_of l c e2
          exact ⟨a, t, rfl, .inl ⟨ws, key, rx, key_v r2 e1, e3.symm⟩, fin z kz t H' s rt⟩
      · exact w3.elim
    | _ => cases h
  refine ⟨key, fun e _ h => pt_of (key e h) ?_, no_mA fun es => rfl, no_mO fun o => rfl⟩
  cases e with
  | Subscript _ _ _ => rfl
  | _ => cases h
theorem optI_mono {ds : List D} {k k' : Option Int → Prop} (h : optI ds k) (m : ∀ o, k o → k' o) : optI ds k' := by
  unfold optI at h ⊢
  split at h <;> first | exact m _ h | exact h.elim
theorem snb_sliS {a lo hi : M} (ha : SnB T cl N a) (hl : SnB T cl N lo) (hh : SnB T cl N hi) : SnB T cl N (.sliS a lo hi) := fun sc X G hq => by
  obtain ⟨hq, qh⟩ := ba (show (a.quiet && lo.quiet && hi.quiet) = true from hq)
  obtain ⟨qa, ql⟩ := ba hq
  have inv : ∀ e, mE N (.sliS a lo hi) sc e = true → ∃ e1 l h p2 p, e = .Subscript e1 (.Slice l h none p2) p ∧ mE N a sc e1 = true ∧ mO N lo sc l = true ∧ mO N hi sc h = true := fun e h => by
    cases e with
    | Subscript e f p =>
      cases f with
      | Slice l u st p2 =>
        cases st with
        | some _ => cases h
        | none =>
          obtain ⟨h, h3⟩ := ba (show (mE N a sc e && mO N lo sc l && mO N hi sc u) = true from h)
          obtain ⟨h1, h2⟩ := ba h
          exact ⟨e, l, u, p2, p, rfl, h1, h2, h3⟩
      | _ => cases h
    | _ => cases h
  have key : ∀ e, mE N (.sliS a lo hi) sc e = true → PE X e (tB cl T (.sliS a lo hi)) := fun e h => by
    obtain ⟨e1, l, u, p2, p, rfl, h1, h2, h3⟩ := inv e h
    refine PE.of (pe_slice sl_str ((ha sc X G qa).1 e1 h1) ((hl sc X G ql).2.2.2 l h2) ((hh sc X G qh).2.2.2 u h3)) fun σ H Q ⟨ρ, k, R, w, fin⟩ => ?_
    refine ⟨ρ, _, R, w, fun x w1 v H1 s1 r1 => ?_⟩
    cases r1 with
    | str z =>
      refine ⟨ρ, _, R.ext s1, w1, fun ls w2 => optI_mono w2 fun l w3 H2 s2 => ?_⟩
      exact ⟨ρ, _, (R.ext s1).ext s2, w3, fun hs w4 => optI_mono w4 fun h w5 H3 s3 => ⟨z, rfl, w5.1, fin _ w5.2 _ H3 ((s1.trans s2).trans s3) (.str _)⟩⟩
    | _ => exact w1.elim
  refine ⟨key, fun e _ h => pt_of (key e h) ?_, no_mA fun es => rfl, no_mO fun o => rfl⟩
  obtain ⟨e1, l, u, p2, p, rfl, h1, h2, h3⟩ := inv e h
  rfl

theorem len_keys {κ α β : Type} {kvs : List (κ × α)} {ws : List (κ × β)} (l : kvs.map (·.1) = ws.map (·.1)) : ws.length = kvs.length := by
  have := congrArg List.length l
  simpa using this.symm
theorem RsL.one {F : SetA} {H : Hp} {d : D} {vs : List V} (r : RsL cl F H [d] vs) : ∃ v, vs = [v] ∧ Rs cl F H d v := by
  obtain ⟨v, vs', rfl, h1, h2⟩ := r.inv
  rw [h2.nil_inv]
  exact ⟨v, rfl, h1⟩
theorem RsL.two {F : SetA} {H : Hp} {d e : D} {vs : List V} (r : RsL cl F H [d, e] vs) : ∃ v u, vs = [v, u] ∧ Rs cl F H d v ∧ Rs cl F H e u := by
  obtain ⟨v, vs', rfl, h1, h2⟩ := r.inv
  obtain ⟨u, rfl, h3⟩ := h2.one
  exact ⟨v, u, rfl, h1, h3⟩
theorem bools_v {H : Hp} : ∀ {ds : List D} {bs : List Bool} {vs : List V}, ds.mapM D.asBool = some bs → RsL cl all H ds vs → vs = bs.map V.bl
  | [], bs, vs, e, r => by
    simp only [List.mapM_nil] at e
    cases e
    rw [r.nil_inv]; rfl
  | d :: ds, bs, vs, e, r => by
    obtain ⟨v, vs', rfl, h1, h2⟩ := r.inv
    rw [List.mapM_cons] at e
    cases d with
    | bl b =>
      cases q : ds.mapM D.asBool with
      | none => rw [q] at e; cases e
      | some bs' =>
        rw [q] at e
        cases e
        cases h1
        rw [bools_v q h2]; rfl
    | _ => cases e
def Bi.val : Bi → Value
  | .len => .builtin "len" | .int => .type "int" | .min => .builtin "min" | .max => .builtin "max" | .all => .builtin "all"
/-- a built-in over data: what its call gives -/
theorem call_b {X : Cx} (hc : X.calm = true) {f : Bi} {H : Hp} {xs : List D} {vs : List V} {k : D → Prop} {Q : VK} (r : RsL cl all H xs vs) (h : biW f xs k) (fin : ∀ d, k d → d.flat = true → Q d.toV H)
    {pins : List (Addr × Obj)} {σ : L2.St} {s : Shared} {us : List Value} (I : Inv X pins σ H s) (rv : Vals vs us) :
    wpAny (model X.prog X.w) X.A (call f.val us) (EP X pins σ Q) X.xe s := by
  unfold biW at h
  split at h
  · obtain ⟨v, rfl, h1⟩ := r.one
    cases h1 with
    | @lst ds a ws _ rx l _ => exact call_len pins s σ H _ us Q I rv ⟨_, _, rfl, .inl ⟨ws, .inl rx, rfl⟩, by rw [← l]; exact fin _ h rfl⟩
  · obtain ⟨v, rfl, h1⟩ := r.one
    cases h1 with
    | @tup ds a ws _ rx l _ => exact call_len pins s σ H _ us Q I rv ⟨_, _, rfl, .inr ⟨ws, .inl (.inl rx), rfl⟩, by rw [← l]; exact fin _ h rfl⟩
  · obtain ⟨v, rfl, h1⟩ := r.one
    cases h1 with
    | @dic ds a ws _ rx l _ =>
      obtain ⟨u, rfl, ru⟩ := vals1 rv
      cases ru
      refine d_len I rx fun t s' I' => ⟨.int ws.length, H, I', ⟨t, rfl⟩, ?_⟩
      rw [len_keys l]; exact fin _ h rfl
  · obtain ⟨v, rfl, h1⟩ := r.one
    cases h1
    exact call_len pins s σ H _ us Q I rv ⟨_, _, rfl, ⟨h.1, rfl⟩, fin _ h.2 rfl⟩
  · obtain ⟨v, rfl, h1⟩ := r.one
    cases h1
    exact call_int1 pins s σ H _ us Q I rv (.inl ⟨_, rfl, fin _ h rfl⟩)
  · obtain ⟨v, rfl, h1⟩ := r.one
    cases h1
    exact call_int1 pins s σ H _ us Q I rv (.inr ⟨_, rfl, fin _ h rfl⟩)
  · obtain ⟨v, u, rfl, h1, h2⟩ := r.two
    cases h1; cases h2
    exact call_min2 hc pins s σ H _ us Q I rv ⟨_, _, rfl, fin _ h rfl⟩
  · obtain ⟨v, u, rfl, h1, h2⟩ := r.two
    cases h1; cases h2
    exact call_max2 hc pins s σ H _ us Q I rv ⟨_, _, rfl, fin _ h rfl⟩
  · obtain ⟨v, rfl, h1⟩ := r.one
    have h : allW _ k := h
    unfold allW at h
    split at h
    · rename_i bs e
      cases h1 with
      | @lst ds a ws _ rx l c =>
        have e2 := bools_v e ⟨l, c⟩
        subst e2
        exact cr_all hc pins s σ H _ us Q I rv ⟨a, bs, rfl, .inl rx, fin _ h rfl⟩
    · exact h.elim
  · exact h.elim

theorem bi_boot : ∀ f : Bi, bootBuiltins f.nm = some f.val ∧ f.nm ∈ biNames ∧ f.nm ≠ "__name__" ∧ (f.nm == ("__debug__" : Str)) = false := by
  intro f
  cases f <;> (refine ⟨?_, ?_, ?_, ?_⟩ <;> decide +kernel)
theorem pe_bi {X : Cx} {sc : Scope} (G : Gq T X N sc) {f : Bi} {x : Str} {es : List Expr} {p pos : Pos} {t : TA} {r : List V → Hp → VK → Prop} (hx : x = f.nm) (hg : gloB sc x = true) (ha : PA X es t) (hp : ∀ e ∈ es, plainE e = true) (he : es.isEmpty = false)
    (hr : CallR X f.val r) : PE X (.Call (.Name x p) es [] pos) (tCB r t) := by
  subst hx
  obtain ⟨h1, h2, h3, h4⟩ := bi_boot f
  cases es with
  | nil => cases he
  | cons e es =>
    have s1 := star_of (es := es) (env := X.env) (hp e List.mem_cons_self)
    have s2 := nostar (env := X.env) (pos := pos) fun e he => hp e (List.mem_cons_of_mem _ he)
    cases f with
    | int => exact pe_callTy hr (glo_of G hg) (G.bi _ h2) h1 ha h3 h4 s1 s2
    | _ => exact pe_callB hr (glo_of G hg) (G.bi _ h2) h1 ha h3 h4 s1 s2
theorem snb_bi {f : Bi} {as : M} (ha : SnB T cl N as) : SnB T cl N (.bi f as) := fun sc X G hq => by
  have key : ∀ e, mE N (.bi f as) sc e = true → PE X e (tB cl T (.bi f as)) ∧ plainTst e = true := fun e h => by
    cases e with
    | Call g es ks p =>
      cases g with
      | Name x q =>
        cases ks with
        | cons _ _ => cases h
        | nil =>
          obtain ⟨h, h4⟩ := ba (show (decide (x = f.nm) && gloB sc x && mA N as sc es && !es.isEmpty) = true from h)
          obtain ⟨h, h3⟩ := ba h
          obtain ⟨h1, h2⟩ := ba h
          refine ⟨PE.of (pe_bi (r := fun vs H Q => ∃ xs k, RsL cl all H xs vs ∧ biW f xs k ∧ ∀ d, k d → d.flat = true → Q d.toV H) G (dec_eq h1) h2 ((ha sc X G hq).2.2.1 es h3) (mA_plain h3) (by simpa using h4) ?_) fun σ H Q ⟨ρ, k, R, w, fin⟩ => ?_, rfl⟩
          · intro pins s σ H vs us Q I rv ⟨xs, k, r, w, fin⟩
            have z := call_b (cl := cl) G.calm r w fin I rv
            exact z
          · exact ⟨ρ, _, R, w, fun xs w1 vs H' s r => ⟨xs, _, r, w1, fun d kd fd => fin d kd _ H' s (Rs.of_flat cl fd)⟩⟩
      | _ => cases h
    | _ => cases h
  exact ⟨fun e h => (key e h).1, fun e _ h => pt_of (key e h).1 (key e h).2, no_mA fun es => rfl, no_mO fun o => rfl⟩

/-! ### isinstance -/
def btNames : List String := ["int", "str", "bool", "list", "tuple", "dict"]
theorem kit_all : (["NoneType", "bool", "int", "str", "list", "tuple", "dict"].all fun a => btNames.all fun b => decide (kitB a b = some (a == b || (a == "bool" && b == "int")))) = true := by decide +kernel
theorem boot_all : (btNames.all fun b => decide (bootBuiltins (Str.ofString b) = some (.type b)) && decide (Str.ofString b ∈ biNames) && decide (Str.ofString b ≠ "__name__") && !(Str.ofString b == ("__debug__" : Str))) = true := by decide +kernel
theorem ty_v {X : Cx} {H : Hp} {d : D} {v : V} (h : Rs cl all H d v) (f : tyn d ≠ "") : TyX X.K H v (.type (tyn d)) := by
  cases h with
  | non => exact .base .non
  | bl b => exact .base (.bl b)
  | int i => exact .base (.int i)
  | str s => exact .base (.str s)
  | lst _ r _ _ =>
    rcases r with r | ⟨o, r⟩
    · exact .base (.lst r)
    · exact .base (.frz r)
  | tup _ r _ _ => exact .base (.tup r)
  | dic _ r _ _ =>
    rcases r with r | ⟨o, r⟩
    · exact .base (.dK r)
    · exact .fDict r
  | dit _ r _ _ => exact absurd rfl f
  | obj _ _ _ _ => exact absurd rfl f
theorem isa_kit {d : D} {n : String} (h : n ∈ btNames) (f : tyn d ≠ "") : kitB (tyn d) n = some (d.isa (.bt n)) := by
  have q := kit_all
  rw [List.all_eq_true] at q
  have tm : tyn d ∈ ["NoneType", "bool", "int", "str", "list", "tuple", "dict"] := by
    cases d <;> first | exact absurd rfl f | simp [tyn]
  have e := of_decide_eq_true (List.all_eq_true.mp (q _ tm) n h)
  rw [e]
  cases d <;> first | exact absurd rfl f | skip
  all_goals simp only [tyn, D.isa]
  all_goals (simp only [btNames, List.mem_cons, List.not_mem_nil, or_false] at h; rcases h with rfl | rfl | rfl | rfl | rfl | rfl <;> decide)

theorem pe_cls {X : Cx} {sc : Scope} (G : Gq T X N sc) {n : String} {e : Expr} (h : tyE sc (.bt n) e = true) : PE X e (tC (.ty n)) ∧ plainE e = true ∧ n ∈ btNames := by
  cases e with
  | Name x p =>
    obtain ⟨h, h3⟩ := ba (show (decide (x = Str.ofString n) && gloB sc x && (["int", "str", "bool", "list", "tuple", "dict"].contains n)) = true from h)
    obtain ⟨h1, h2⟩ := ba h
    cases dec_eq h1
    have hn : n ∈ btNames := by simpa [btNames] using h3
    have q := List.all_eq_true.mp boot_all n hn
    obtain ⟨q, q4⟩ := ba q
    obtain ⟨q, q3⟩ := ba q
    obtain ⟨q1, q2⟩ := ba q
    exact ⟨pe_bltn (glo_of G h2) (G.bi _ (of_decide_eq_true q2)) (of_decide_eq_true q1) rfl (of_decide_eq_true q3) (by simpa using q4), rfl, hn⟩
  | _ => cases h
theorem tys_v {X : Cx} {sc : Scope} (G : Gq T X N sc) : ∀ {ts : List Ty} {es : List Expr}, tysA sc ts es = true → ∃ ns : List String, ts = ns.map Ty.bt ∧ (∀ n ∈ ns, n ∈ btNames) ∧ (∀ e ∈ es, plainE e = true) ∧ PA X es (fun _ H Q => Q (ns.map V.ty) H)
  | [], [], _ => ⟨[], rfl, (fun _ h => by cases h), (fun _ h => by cases h), PA.of pa_nil fun _ _ _ q => q⟩
  | t :: ts, e :: es, h => by
    obtain ⟨h1, h2⟩ := ba (show (tyE sc t e && tysA sc ts es) = true from h)
    obtain ⟨ns, rfl, hn, hp, hP⟩ := tys_v G h2
    cases t with
    | bt n =>
      obtain ⟨q1, q2, q3⟩ := pe_cls G h1
      refine ⟨n :: ns, rfl, fun m hm => ?_, fun e' he => ?_, PA.of (pa_cons q1 hP (star_of q2)) fun _ _ _ q => q⟩
      · rcases List.mem_cons.mp hm with rfl | hm
        · exact q3
        · exact hn m hm
      · rcases List.mem_cons.mp he with rfl | he
        · exact q2
        · exact hp e' he
    | ow c => cases e <;> cases h1
  | [], _ :: _, h => by cases h
  | _ :: _, [], h => by cases h
theorem kit_any {K : PySem.W.Frag} {d : D} (f : tyn d ≠ "") : ∀ {ns : List String}, (∀ n ∈ ns, n ∈ btNames) → PySem.W.kitAny K (.type (tyn d)) (ns.map Value.type) = some ((ns.map Ty.bt).any d.isa)
  | [], _ => rfl
  | n :: ns, h => by
    have q := kit_ty (K := K) (isa_kit (h n List.mem_cons_self) f)
    have ih := kit_any (K := K) f (ns := ns) fun m hm => h m (List.mem_cons_of_mem _ hm)
    refine kitAny_cons (b := d.isa (.bt n)) q (fun e => ?_) fun e => ?_
    · rw [ih]; simp [e]
    · simp [e]
theorem clsv : ∀ ns : List String, Paired ClsV (ns.map V.ty) (ns.map Value.type)
  | [] => .nil
  | n :: ns => .cons (.ty n) (clsv ns)
theorem tysA_len {sc : Scope} : ∀ {ts : List Ty} {es : List Expr}, tysA sc ts es = true → ts.length = es.length
  | [], [], _ => rfl
  | t :: ts, e :: es, h => by
    have := tysA_len (ba (show (tyE sc t e && tysA sc ts es) = true from h)).2
    simp [this]
  | [], _ :: _, h => by cases h
  | _ :: _, [], h => by cases h
theorem snb_isa {a : M} {ts : List Ty} (ha : SnB T cl N a) : SnB T cl N (.isa a ts) := fun sc X G hq => by
  have key : ∀ e, mE N (.isa a ts) sc e = true → PE X e (tB cl T (.isa a ts)) ∧ plainTst e = true := fun e h => by
    cases e with
    | Call g es ks p =>
      cases g with
      | Name x q =>
        match es, ks, h with
        | [e, c], [], h =>
          obtain ⟨h, h5⟩ := ba (show (decide (x = ("isinstance" : Str)) && gloB sc x && mE N a sc e && plainE e && tysE sc ts c) = true from h)
          obtain ⟨h, h4⟩ := ba h
          obtain ⟨h, h3⟩ := ba h
          obtain ⟨h1, h2⟩ := ba h
          cases dec_eq h1
          have hm := G.bi ("isinstance" : Str) (by decide +kernel)
          have hv : bootBuiltins ("isinstance" : Str) = some (.builtin "isinstance") := by decide +kernel
          refine ⟨?_, rfl⟩
          cases c with
          | Name y py =>
            match ts, h5 with
            | [t], h5 =>
              cases t with
              | ow c => cases h5
              | bt n =>
                obtain ⟨q1, q2, q3⟩ := pe_cls G (show tyE sc (.bt n) (.Name y py) = true from h5)
                refine PE.of (pe_callB call_isi (glo_of G h2) hm hv (pa_cons ((ha sc X G hq).1 e h3) (pa_cons q1 pa_nil (star_of q2)) (star_of h4)) (by decide) (by decide) (star_of h4) (nostar fun e' he => by
                  rcases List.mem_singleton.mp he with rfl; exact q2)) fun σ H Q ⟨ρ, k, R, w, fin⟩ => ?_
                refine ⟨ρ, _, R, w, fun d w1 v H' s r => ?_⟩
                have w2 : tyn d ≠ "" ∧ k [.bl ([Ty.bt n].any d.isa)] := w1
                refine ⟨v, .ty n, .type (tyn d), .type n, d.isa (.bt n), rfl, .ty n, ty_v r w2.1, kit_ty (isa_kit q3 w2.1), ?_⟩
                have z := fin _ w2.2 _ H' s (.bl _)
                simpa using z
            | [], h5 => cases h5
            | _ :: _ :: _, h5 => cases h5
          | Tuple cs k2 pt =>
            have h6 : (!cs.isEmpty && decide (cs.length ≤ 8) && tysA sc ts cs) = true := by
              cases ts with
              | nil => exact h5
              | cons t ts => cases ts <;> exact h5
            obtain ⟨h6, h8⟩ := ba h6
            obtain ⟨h6, h7⟩ := ba h6
            obtain ⟨ns, rfl, hn, hp, hP⟩ := tys_v G h8
            refine PE.of (pe_callB call_isiT (glo_of G h2) hm hv (pa_cons ((ha sc X G hq).1 e h3) (pa_cons (pe_tup hP) pa_nil (star_of rfl)) (star_of h4)) (by decide) (by decide) (star_of h4) (nostar fun e' he => by
                rcases List.mem_singleton.mp he with rfl; rfl)) fun σ H Q ⟨ρ, k, R, w, fin⟩ => ?_
            refine ⟨ρ, _, R, w, fun d w1 v H' s r => ?_⟩
            have w2 : tyn d ≠ "" ∧ k [.bl ((ns.map Ty.bt).any d.isa)] := w1
            refine ⟨?_, fun p hp => ?_⟩
            · have e : (ns.map Ty.bt).length = cs.length := tysA_len h8
              rw [List.length_map] at e ⊢
              rw [e]
              exact Nat.le_trans (of_decide_eq_true h7) (by decide)
            · have s2 : Same H' (upd H' p (.tup (ns.map V.ty))) := fun b o e => by rw [upd_ne (ne_of_none e hp)]; exact e
              refine ⟨v, p, ns.map V.ty, .type (tyn d), ns.map Value.type, _, rfl, upd_same, clsv ns, ty_v (r.ext s2) w2.1, kit_any w2.1 hn, fin _ w2.2 _ _ (s.trans s2) (.bl _)⟩
          | _ =>
            match ts, h5 with
            | [], h5 => cases h5
            | [_], h5 => cases h5
            | _ :: _ :: _, h5 => cases h5
        | [], _, h => cases h
        | [_], _, h => cases h
        | [_, _], _ :: _, h => cases h
        | _ :: _ :: _ :: _, _, h => cases h
      | _ => cases h
    | _ => cases h
  exact ⟨fun e h => (key e h).1, fun e _ h => pt_of (key e h).1 (key e h).2, no_mA fun es => rfl, no_mO fun o => rfl⟩

/-- QUIET READING IS SOUND -/
theorem sndB (m : M) : SnB T cl N m := by
  induction m with
  | var i => exact snb_var
  | num n => exact snb_num
  | txt s => exact snb_txt
  | boo b => exact snb_boo
  | non => exact snb_non
  | gcon x => exact snb_gcon
  | bin o a b ha hb => exact snb_bin ha hb
  | neg a ha => exact snb_neg ha
  | cmp o a b ha hb => exact snb_cmp ha hb
  | chn o o' a b c ha hb hc => exact snb_chn ha hb hc
  | not a ha => exact snb_not ha
  | and a b ha hb => exact snb_and ha hb
  | or a b ha hb => exact snb_or ha hb
  | ite c a b hc ha hb => exact snb_ite hc ha hb
  | nil => exact snb_nil
  | cons a as ha has => exact snb_cons ha has
  | lst as ha => exact snb_lst ha
  | tup as ha => exact snb_tup ha
  | ixL a i ha hi => exact snb_ixL ha hi
  | ixD a i ha hi => exact snb_ixD ha hi
  | sliS a l h ha hl hh => exact snb_sliS ha hl hh
  | bi f as ha => exact snb_bi ha
  | isa a ts ha => exact snb_isa ha
  | _ => exact fun _ _ _ hq => by cases hq
end
end DL
/-! DL6: what an operation does to a frame's state. -/
namespace DL
open PySem PySem.Spec PyProof.Rows L2
section
variable {cl : Str → Addr} {b : Bs} {σ : L2.St} {H H' : Hp} {ρ : DEnv} {ts us : List Cell} {S : List (Option Cell)} {F F' : SetA} {fs : Sum Nat Nat → SetA} {v : V} {d : D} {o : Ow}
theorem Nd.flat {ch : Key → D → V → SetA → Prop} {d : D} {v : V} {fp : SetA} (hd : d.flat = true) : Nd cl F H ch d v fp ↔ Rs cl F H d v ∧ ∀ x, ¬ fp x := by
  cases d <;> first | exact Iff.rfl | cases hd
theorem Rp.flat {o : Ow} {d : D} {v : V} {fp : SetA} (hd : d.flat = true) : Rp cl F H o d v fp ↔ v = d.toV ∧ ∀ x, ¬ fp x := by
  have key : Rs cl F H d v ↔ v = d.toV := ⟨fun h => h.flat cl hd, fun h => h ▸ Rs.of_flat cl hd⟩
  rw [← key]
  cases o with
  | sh => exact Rp.sh_iff cl
  | own c => rw [Rp.nd_iff cl (by simp)]; exact Nd.flat hd
  | ownK k o r => rw [Rp.nd_iff cl (by simp)]; exact Nd.flat hd
theorem Wst.temp (W : Wst cl b H (cells S (ts ++ us)) F fs) {k : Nat} {v : V} {d : D} {o : Ow} (h : us[k]? = some (v, d, o)) : Rp cl F H o d v (fs (.inr (ts.length + k))) := by
  refine W.rp _ v d o ?_
  show (ts ++ us)[ts.length + k]? = _
  rw [List.getElem?_append_right (Nat.le_add_right _ _), Nat.add_sub_cancel_left]
  exact h
theorem Held.temp {n j : Nat} {x : Addr} (h : fs (.inr j) x) (hj : n ≤ j) {J0 : Nat → Prop} : Held fs J0 n x := .inr ⟨j, hj, h⟩
theorem Held.no {n : Nat} {x : Addr} (h : Held fs noJ n x) : ∃ j, n ≤ j ∧ fs (.inr j) x := by
  rcases h with ⟨_, z, _⟩ | h
  · exact z.elim
  · exact h
theorem Held.there (W : Wst cl b H (cells S (ts ++ us)) F fs) {J0 : Nat → Prop} {n : Nat} {x : Addr} (h : Held fs J0 n x) : ∃ o, H x = some o := by
  rcases h with ⟨i, _, h⟩ | ⟨j, _, h⟩ <;> exact W.there h
def shC (c : Cell) : Cell := (c.1, c.2.1, .sh)
/-- the last things at hand: nobody may write them any more -/
theorem Rst.freeze (R : Rst cl b σ H ρ (ts ++ us)) : Rst cl b σ H ρ (ts ++ us.map shC) := by
  obtain ⟨S, F, fs, s, W⟩ := R
  have key : ∀ (k : Nat) (v : V) (d : D) (o : Ow), (us.map shC)[k]? = some (v, d, o) → Rp cl (fun x => F x ∨ Held fs noJ ts.length x) H o d v (noG (.inr k)) := fun k v d o e => by
    rw [List.getElem?_map] at e
    cases q : us[k]? with
    | none => rw [q] at e; cases e
    | some c =>
      rw [q] at e
      obtain ⟨v', d', o'⟩ := c
      cases e
      refine (Rp.sh_iff cl).mpr ⟨Rp.freeze cl (F := F) (fun _ h => .inl h) o' (fun x hx => .inr (Held.temp hx (Nat.le_add_right _ k))) (W.temp q), fun _ z => z⟩
  obtain ⟨fs', W'⟩ := W.turn (S' := S) (us' := us.map shC) (H' := H) (F' := fun x => F x ∨ Held fs noJ ts.length x) noJ noG (fun _ _ => rfl) (fun _ _ e _ => e) (fun _ h => .inl h) (fun a h => by rcases h with h | h; exact .inl h; exact .inr (.inl h))
    (fun a h => by rcases h with h | h; exact W.aF a h; exact Held.there W h) (fun _ _ _ _ z => z.elim) key (fun _ _ z => z.elim) (fun _ _ z => z.elim) (fun _ _ z => z.elim) fun _ _ _ z => z.elim
  exact ⟨S, _, fs', s, W'⟩
/-- a slot's value: nobody may write it any more, and it is at hand -/
theorem Rst.take (R : Rst cl b σ H ρ ts) {i : Nat} {d : D} {o : Ow} (h : ρ[i]? = some (some (d, o))) : ∃ v, σ[i]? = some (some v) ∧ Rst cl b σ H (ρ.set i (some (d, .sh))) (ts ++ [(v, d, .sh)]) := by
  obtain ⟨S, F, fs, s, W⟩ := R
  obtain ⟨v, e1, e2⟩ := s.get h
  refine ⟨v, e2, ?_⟩
  have il : i < S.length := (List.getElem?_eq_some_iff.mp e1).1
  let F' : SetA := fun x => F x ∨ Held fs (fun j => j = i) ts.length x
  have rs : Rs cl F' H d v := Rp.freeze cl (F := F) (fun _ h => .inl h) o (fun x hx => .inr (.inl ⟨i, rfl, hx⟩)) (W.rp (.inl i) v d o (cells_at e1))
  rw [← List.append_nil ts] at W
  obtain ⟨fs', W'⟩ := W.turn (S' := S.set i (some (v, d, .sh))) (us' := [(v, d, .sh)]) (H' := H) (F' := F') (fun j => j = i) noG (fun j hj => List.getElem?_set_ne (Ne.symm hj)) (fun _ _ e _ => e) (fun _ h => .inl h) (fun a h => by rcases h with h | h; exact .inl h; exact .inr (.inl h))
    (fun a h => by rcases h with h | h; exact W.aF a h; exact Held.there W h) (fun j v' d' o' hj e => by
      subst hj
      rw [List.getElem?_set_self il] at e
      cases e
      exact (Rp.sh_iff cl).mpr ⟨rs, fun _ z => z⟩) (fun k v' d' o' e => by
      cases k with
      | zero => cases e; exact (Rp.sh_iff cl).mpr ⟨rs, fun _ z => z⟩
      | succ k => simp at e) (fun _ _ z => z.elim) (fun _ _ z => z.elim) (fun _ _ z => z.elim) fun _ _ _ z => z.elim
  exact ⟨_, F', fs', s.put e1 d .sh, W'⟩
theorem Rst.takeSh (R : Rst cl b σ H ρ ts) {i : Nat} {d : D} (h : ρ[i]? = some (some (d, .sh))) : ∃ v, σ[i]? = some (some v) ∧ Rst cl b σ H ρ (ts ++ [(v, d, .sh)]) := by
  obtain ⟨v, e, R'⟩ := R.take h
  have z : ρ.set i (some (d, .sh)) = ρ := by
    apply List.ext_getElem?
    intro j
    by_cases hj : i = j
    · subst hj
      rw [List.getElem?_set_self (List.getElem?_eq_some_iff.mp h).1, h]
    · rw [List.getElem?_set_ne hj]
  rw [z] at R'
  exact ⟨v, e, R'⟩
def vOf (us : List Cell) : List V := us.map (·.1)
def dOf (us : List Cell) : List D := us.map (·.2.1)
/-- a new list of what is at hand -/
theorem Rst.newLst (R : Rst cl b σ H ρ (ts ++ us)) {c : Ow} (hc : ∀ p ∈ us, p.2.1.flat = true ∨ p.2.2 = c) {p : Addr} (hp : H p = none) : Rst cl b σ (upd H p (.lst (vOf us))) ρ (ts ++ [(.ref p, .lst (dOf us), .own c)]) := by
  obtain ⟨S, F, fs, s, W⟩ := R
  have up : ∀ a o, H a = some o → upd H p (.lst (vOf us)) a = some o := fun a o e => by rw [upd_ne (ne_of_none e hp)]; exact e
  let gs : Nat → SetA := fun i x => i < us.length ∧ fs (.inr (ts.length + i)) x
  have hold : ∀ {j x}, ts.length ≤ j → fs (.inr j) x → gs (j - ts.length) x := fun {j x} hj hx => by
    obtain ⟨cc, e⟩ := W.occ _ _ hx
    have e' : (ts ++ us)[j]? = some cc := e
    rw [List.getElem?_append_right hj] at e'
    exact ⟨(List.getElem?_eq_some_iff.mp e').1, by rw [show ts.length + (j - ts.length) = j by omega]; exact hx⟩
  let g : Sum Nat Nat → SetA := fun q x => match q with
    | .inl _ => False
    | .inr k => k = 0 ∧ (x = p ∨ ∃ i, gs i x)
  have rpN : Rp cl F (upd H p (.lst (vOf us))) (.own c) (.lst (dOf us)) (.ref p) (g (.inr 0)) := by
    refine (Rp.nd_iff cl (by simp)).mpr ⟨p, vOf us, gs, rfl, upd_same, by simp [vOf, dOf], fun i d v h1 h2 => ?_, ⟨fun i x hx => ⟨by simpa [dOf] using hx.1, ?_⟩, fun i j x hi hj => ?_, fun x => ?_⟩⟩
    · unfold dOf at h1
      unfold vOf at h2
      rw [List.getElem?_map] at h1 h2
      cases q : us[i]? with
      | none => rw [q] at h1; cases h1
      | some cc =>
        rw [q] at h1 h2
        obtain ⟨v', d', o'⟩ := cc
        cases h1; cases h2
        have r := W.temp q
        have il : i < us.length := (List.getElem?_eq_some_iff.mp q).1
        show Rp cl F _ c d' v' (gs i)
        rcases hc _ (List.mem_of_getElem? q) with z | z
        · obtain ⟨r1, r2⟩ := (Rp.flat z).mp r
          exact (Rp.flat z).mpr ⟨r1, fun x hx => r2 x hx.2⟩
        · have z' : o' = c := z
          subst z'
          have e : gs i = fs (.inr (ts.length + i)) := funext fun x => propext ⟨fun h => h.2, fun h => ⟨il, h⟩⟩
          rw [e]
          exact Rp.mono cl (fun _ h => h) (fun a u _ r => Rx.same (fun o e => up a o e) r) o' (fun a u _ e => up a u e) r
    · intro e
      subst e
      obtain ⟨o, z⟩ := W.there hx.2
      rw [hp] at z; cases z
    · have := W.dj _ _ x hi.2 hj.2
      have := Sum.inr.inj this
      omega
    · exact ⟨fun h => h.2, fun h => ⟨rfl, h⟩⟩
  obtain ⟨fs', W'⟩ := W.turn (S' := S) (us' := [(.ref p, .lst (dOf us), .own c)]) (H' := upd H p (.lst (vOf us))) (F' := F) noJ g (fun _ _ => rfl) (fun a o e _ => up a o e) (fun _ h => h) (fun _ h => .inl h) (fun a h => let ⟨o, e⟩ := W.aF a h; ⟨o, up a o e⟩)
    (fun _ _ _ _ z => z.elim) (fun k v d o e => by
      cases k with
      | zero => cases e; exact rpN
      | succ k => simp at e) (fun _ _ z => z.elim) (fun k x z => by rw [z.1]; simp) (fun q x z => by
      cases q with
      | inl _ => exact z.elim
      | inr k =>
        obtain ⟨_, rfl | ⟨i, h1, h2⟩⟩ := z
        · exact ⟨.inr hp, fun hF => by obtain ⟨o, e⟩ := W.aF _ hF; rw [hp] at e; cases e⟩
        · exact ⟨.inl (Held.temp h2 (Nat.le_add_right _ _)), W.df _ _ h2⟩) (fun q q' x h1 h2 => by
      cases q with
      | inl _ => exact h1.elim
      | inr k =>
        cases q' with
        | inl _ => exact h2.elim
        | inr k' => rw [h1.1, h2.1])
  exact ⟨S, F, fs', s, W'⟩

theorem upd_keep {p : Addr} {u : HO} (hp : H p = none) : ∀ a o, H a = some o → upd H p u a = some o := fun a o e => by rw [upd_ne (ne_of_none e hp)]; exact e
/-- a new object that nobody may write, made of what is at hand -/
theorem Rst.newSh (R : Rst cl b σ H ρ (ts ++ us)) {p : Addr} {u : HO} {d : D} (hp : H p = none)
    (h : ∀ F, (∀ (k : Nat) (v : V) (d' : D), us[k]? = some (v, d', .sh) → Rs cl F H d' v) → Rs cl (fun x => F x ∨ x = p) (upd H p u) d (.ref p)) : Rst cl b σ (upd H p u) ρ (ts ++ [(.ref p, d, .sh)]) := by
  obtain ⟨S, F, fs, s, W⟩ := R
  have r : Rs cl (fun x => F x ∨ x = p) (upd H p u) d (.ref p) := h F fun k v d' e => ((Rp.sh_iff cl).mp (W.temp e)).1
  obtain ⟨fs', W'⟩ := W.turn (S' := S) (us' := [(.ref p, d, .sh)]) (H' := upd H p u) (F' := fun x => F x ∨ x = p) noJ noG (fun _ _ => rfl) (fun a o e _ => upd_keep hp a o e) (fun _ h => .inl h) (fun a h => by rcases h with h | rfl; exact .inl h; exact .inr (.inr hp))
    (fun a h => by
      rcases h with h | rfl
      · obtain ⟨o, e⟩ := W.aF a h; exact ⟨o, upd_keep hp a o e⟩
      · exact ⟨_, upd_same⟩) (fun _ _ _ _ z => z.elim) (fun k v d' o e => by
      cases k with
      | zero => cases e; exact (Rp.sh_iff cl).mpr ⟨r, fun _ z => z⟩
      | succ k => simp at e) (fun _ _ z => z.elim) (fun _ _ z => z.elim) (fun _ _ z => z.elim) fun _ _ _ z => z.elim
  exact ⟨S, _, fs', s, W'⟩
theorem sh_all {us : List Cell} (h : ∀ p ∈ us, p.2.2 = Ow.sh) {F : SetA} {H H' : Hp} (r : ∀ (k : Nat) (v : V) (d' : D), us[k]? = some (v, d', .sh) → Rs cl F H d' v) {F' : SetA} (hF : ∀ x, F x → F' x) (hk : ∀ a o, H a = some o → H' a = some o) :
    (dOf us).length = (vOf us).length ∧ ∀ (i : Nat) d v, (dOf us)[i]? = some d → (vOf us)[i]? = some v → Rs cl F' H' d v := by
  refine ⟨by simp [dOf, vOf], fun i d v h1 h2 => ?_⟩
  unfold dOf at h1
  unfold vOf at h2
  rw [List.getElem?_map] at h1 h2
  cases q : us[i]? with
  | none => rw [q] at h1; cases h1
  | some c =>
    rw [q] at h1 h2
    obtain ⟨v', d', o⟩ := c
    cases h1; cases h2
    have e : o = .sh := h _ (List.mem_of_getElem? q)
    subst e
    exact (r i v' d' q).mono cl hF fun _ _ _ r => Rx.same (fun o e => hk _ o e) r
theorem Rst.newTup (R : Rst cl b σ H ρ (ts ++ us)) (hs : ∀ p ∈ us, p.2.2 = Ow.sh) {p : Addr} (hp : H p = none) : Rst cl b σ (upd H p (.tup (vOf us))) ρ (ts ++ [(.ref p, .tup (dOf us), .sh)]) :=
  R.newSh hp fun F r => by
    obtain ⟨h1, h2⟩ := sh_all (F' := fun x => F x ∨ x = p) hs r (fun _ h => .inl h) (upd_keep (u := .tup (vOf us)) hp)
    exact .tup (.inr rfl) (Rx.of upd_same) h1 h2
/-- what is at hand, for reading -/
theorem Rst.readT (R : Rst cl b σ H ρ ts) {k : Nat} {v : V} {d : D} {o : Ow} (h : ts[k]? = some (v, d, o)) : Rs cl all H d v := by
  obtain ⟨S, F, fs, s, W⟩ := R
  exact W.read (i := .inr k) h
/-- the last thing at hand goes into a slot -/
theorem Rst.store (R : Rst cl b σ H ρ (ts ++ [(v, d, o)])) {i : Nat} (hi : i < ρ.length) : Rst cl b (σ.set i (some v)) H (ρ.set i (some (d, o))) ts := by
  obtain ⟨S, F, fs, s, W⟩ := R
  have il : i < S.length := by have := s.env; rw [this] at hi; simpa using hi
  let g : Sum Nat Nat → SetA := fun q x => match q with
    | .inl j => j = i ∧ fs (.inr ts.length) x
    | .inr _ => False
  have r := W.temp (k := 0) (v := v) (d := d) (o := o) rfl
  rw [Nat.add_zero] at r
  obtain ⟨fs', W'⟩ := W.turn (S' := S.set i (some (v, d, o))) (us' := []) (H' := H) (F' := F) (fun j => j = i) g (fun j hj => List.getElem?_set_ne (Ne.symm hj)) (fun _ _ e _ => e) (fun _ h => h) (fun _ h => .inl h) W.aF
    (fun j v' d' o' hj e => by
      subst hj
      rw [List.getElem?_set_self il] at e
      cases e
      have e2 : g (.inl j) = fs (.inr ts.length) := funext fun x => propext ⟨fun h => h.2, fun h => ⟨rfl, h⟩⟩
      rw [e2]; exact r) (fun k v' d' o' e => by simp at e) (fun j x z => ⟨(v, d, o), by rw [z.1]; exact List.getElem?_set_self il⟩) (fun _ _ z => z.elim) (fun q x z => by
      cases q with
      | inr _ => exact z.elim
      | inl j => exact ⟨.inl (Held.temp z.2 (Nat.le_refl _)), W.df _ _ z.2⟩) (fun q q' x h1 h2 => by
      cases q with
      | inr _ => exact h1.elim
      | inl j =>
        cases q' with
        | inr _ => exact h2.elim
        | inl j' => rw [h1.1, h2.1])
  rw [List.append_nil] at W'
  exact ⟨_, F, fs', s.set i (v, d, o), W'⟩
/-- a slot is forgotten -/
theorem Rst.unset (R : Rst cl b σ H ρ ts) (i : Nat) : Rst cl b σ H (ρ.set i none) ts := by
  obtain ⟨S, F, fs, s, W⟩ := R
  rw [← List.append_nil ts] at W
  obtain ⟨fs', W'⟩ := W.turn (S' := S.set i none) (us' := []) (H' := H) (F' := F) (fun j => j = i) noG (fun j hj => List.getElem?_set_ne (Ne.symm hj)) (fun _ _ e _ => e) (fun _ h => h) (fun _ h => .inl h) W.aF
    (fun j v' d' o' hj e => by
      subst hj
      by_cases hl : j < S.length
      · rw [List.getElem?_set_self hl] at e; cases e
      · rw [List.getElem?_eq_none (by simpa using hl)] at e; cases e) (fun k v' d' o' e => by simp at e) (fun _ _ z => z.elim) (fun _ _ z => z.elim) (fun _ _ z => z.elim) fun _ _ _ z => z.elim
  rw [List.append_nil] at W'
  exact ⟨_, F, fs', s.forget i, W'⟩
/-- a slot's value is at hand, the slot forgotten -/
theorem Rst.move (R : Rst cl b σ H ρ ts) {i : Nat} {d : D} {o : Ow} (h : ρ[i]? = some (some (d, o))) : ∃ v, σ[i]? = some (some v) ∧ Rst cl b σ H (ρ.set i none) (ts ++ [(v, d, o)]) := by
  obtain ⟨S, F, fs, s, W⟩ := R
  obtain ⟨v, e1, e2⟩ := s.get h
  refine ⟨v, e2, ?_⟩
  let g : Sum Nat Nat → SetA := fun q x => match q with
    | .inl _ => False
    | .inr k => k = 0 ∧ fs (.inl i) x
  have r := W.rp (.inl i) v d o (cells_at e1)
  rw [← List.append_nil ts] at W
  obtain ⟨fs', W'⟩ := W.turn (S' := S.set i none) (us' := [(v, d, o)]) (H' := H) (F' := F) (fun j => j = i) g (fun j hj => List.getElem?_set_ne (Ne.symm hj)) (fun _ _ e _ => e) (fun _ h => h) (fun _ h => .inl h) W.aF
    (fun j v' d' o' hj e => by
      subst hj
      rw [List.getElem?_set_self (List.getElem?_eq_some_iff.mp e1).1] at e; cases e) (fun k v' d' o' e => by
      cases k with
      | zero =>
        cases e
        have e2 : g (.inr 0) = fs (.inl i) := funext fun x => propext ⟨fun h => h.2, fun h => ⟨rfl, h⟩⟩
        rw [e2]; exact r
      | succ k => simp at e) (fun _ _ z => z.elim) (fun k x z => by rw [z.1]; simp) (fun q x z => by
      cases q with
      | inl _ => exact z.elim
      | inr k => exact ⟨.inl (.inl ⟨i, rfl, z.2⟩), W.df _ _ z.2⟩) (fun q q' x h1 h2 => by
      cases q with
      | inl _ => exact h1.elim
      | inr k =>
        cases q' with
        | inl _ => exact h2.elim
        | inr k' => rw [h1.1, h2.1])
  exact ⟨_, F, fs', s.forget i, W'⟩
end
end DL
/-! DL7: places: the way into what a slot holds; what happens when a part of it is changed. -/
namespace DL
open PySem PySem.Spec PyProof.Rows L2
/-- the value at a place -/
def VAt (H : Hp) : V → D → List PKey → V → Prop
  | v0, _, [], v => v = v0
  | v0, .lst ds, .ix n :: p, v => ∃ a vs x w, v0 = .ref a ∧ Rx H a (.lst vs) ∧ ds[n]? = some x ∧ vs[n]? = some w ∧ VAt H w x p v
  | v0, .tup ds, .ix n :: p, v => ∃ a vs x w, v0 = .ref a ∧ Rx H a (.tup vs) ∧ ds[n]? = some x ∧ vs[n]? = some w ∧ VAt H w x p v
  | _, .str z, .ix n :: p, v => ∃ c, z.cps.toList[n]? = some c ∧ VAt H (.str ⟨#[c]⟩) (.str ⟨#[c]⟩) p v
  | v0, .dic kvs, .ky k :: p, v => ∃ a ws x w, v0 = .ref a ∧ Rx H a (.dK ws) ∧ dget kvs k = some x ∧ valV ws k = some w ∧ VAt H w x p v
  | _, _, _, _ => False
theorem At.snoc {d : D} {o : Ow} {key : PKey} {d' : D} {o' : Ow} (h' : At d o [key] d' o') : ∀ {p : List PKey} {d0 : D} {o0 : Ow}, At d0 o0 p d o → At d0 o0 (p ++ [key]) d' o'
  | [], d0, o0, h => by
    obtain ⟨rfl, rfl⟩ := (show d = d0 ∧ o = o0 by cases d0 <;> exact h)
    exact h'
  | .ix n :: p, d0, o0, h => by
    cases d0 with
    | lst ds => obtain ⟨x, e, h⟩ := h; exact ⟨x, e, At.snoc h' h⟩
    | tup ds => obtain ⟨x, e, h⟩ := h; exact ⟨x, e, At.snoc h' h⟩
    | str z => obtain ⟨x, e, h⟩ := h; exact ⟨x, e, At.snoc h' h⟩
    | _ => exact h.elim
  | .ky k :: p, d0, o0, h => by
    cases d0 with
    | dic kvs => obtain ⟨x, e, h⟩ := h; exact ⟨x, e, At.snoc h' h⟩
    | _ => exact h.elim
section
variable {cl : Str → Addr} {F F' : SetA} {H H' : Hp}
theorem VAt.snoc {o : Ow} {d : D} {v v' : V} {key : PKey} (h' : VAt H v d [key] v') : ∀ {p : List PKey} {d0 : D} {o0 : Ow} {v0 : V}, At d0 o0 p d o → VAt H v0 d0 p v → VAt H v0 d0 (p ++ [key]) v'
  | [], d0, o0, v0, a, h => by
    obtain ⟨rfl, rfl⟩ := (show d = d0 ∧ o = o0 by cases d0 <;> exact a)
    obtain rfl : v = v0 := by cases d <;> exact h
    exact h'
  | .ix n :: p, d0, o0, v0, a, h => by
    cases d0 with
    | lst ds =>
      obtain ⟨x, e, a⟩ := a
      obtain ⟨b, vs, y, w, e1, r, e2, e3, h⟩ := h
      rw [e] at e2; cases e2
      exact ⟨b, vs, x, w, e1, r, e, e3, VAt.snoc h' a h⟩
    | tup ds =>
      obtain ⟨x, e, a⟩ := a
      obtain ⟨b, vs, y, w, e1, r, e2, e3, h⟩ := h
      rw [e] at e2; cases e2
      exact ⟨b, vs, x, w, e1, r, e, e3, VAt.snoc h' a h⟩
    | str z =>
      obtain ⟨x, e, a⟩ := a
      obtain ⟨y, e2, h⟩ := h
      rw [e] at e2; cases e2
      exact ⟨x, e, VAt.snoc h' a h⟩
    | _ => exact a.elim
  | .ky k :: p, d0, o0, v0, a, h => by
    cases d0 with
    | dic kvs =>
      obtain ⟨x, e, a⟩ := a
      obtain ⟨b, vs, y, w, e1, r, e2, e3, h⟩ := h
      rw [e] at e2; cases e2
      exact ⟨b, vs, x, w, e1, r, e, e3, VAt.snoc h' a h⟩
    | _ => exact a.elim
theorem VAt.ext (s : Same H H') : ∀ {p : List PKey} {d0 : D} {v0 v : V}, VAt H v0 d0 p v → VAt H' v0 d0 p v
  | [], d0, v0, v, h => by cases d0 <;> exact h
  | .ix n :: p, d0, v0, v, h => by
    cases d0 with
    | lst ds => obtain ⟨b, vs, y, w, e1, r, e2, e3, h⟩ := h; exact ⟨b, vs, y, w, e1, Rx.same (fun o e => s _ o e) r, e2, e3, VAt.ext s h⟩
    | tup ds => obtain ⟨b, vs, y, w, e1, r, e2, e3, h⟩ := h; exact ⟨b, vs, y, w, e1, Rx.same (fun o e => s _ o e) r, e2, e3, VAt.ext s h⟩
    | str z => obtain ⟨y, e2, h⟩ := h; exact ⟨y, e2, VAt.ext s h⟩
    | _ => exact h.elim
  | .ky k :: p, d0, v0, v, h => by
    cases d0 with
    | dic kvs => obtain ⟨b, vs, y, w, e1, r, e2, e3, h⟩ := h; exact ⟨b, vs, y, w, e1, Rx.same (fun o e => s _ o e) r, e2, e3, VAt.ext s h⟩
    | _ => exact h.elim
/-- of data that nobody may write, a part -/
theorem Rs.at_ : ∀ {p : List PKey} {d0 : D} {o0 o : Ow} {v0 v : V} {d : D}, Rs cl F H d0 v0 → At d0 o0 p d o → VAt H v0 d0 p v → Rs cl F H d v
  | [], d0, o0, o, v0, v, d, r, a, h => by
    obtain ⟨rfl, rfl⟩ := (show d = d0 ∧ o = o0 by cases d0 <;> exact a)
    obtain rfl : v = v0 := by cases d <;> exact h
    exact r
  | .ix n :: p, d0, o0, o, v0, v, d, r, a, h => by
    cases d0 with
    | lst ds =>
      obtain ⟨x, e, a⟩ := a
      obtain ⟨b, vs, y, w, rfl, rx, e2, e3, h⟩ := h
      rw [e] at e2; cases e2
      cases r with
      | @lst _ _ vs' _ rx' l c =>
        have e4 : vs = vs' := by
          rcases rx with q | ⟨_, q⟩ <;> rcases rx' with q' | ⟨_, q'⟩ <;> rw [q] at q' <;> cases q' <;> rfl
        subst e4
        exact Rs.at_ (c n x w e e3) a h
    | tup ds =>
      obtain ⟨x, e, a⟩ := a
      obtain ⟨b, vs, y, w, rfl, rx, e2, e3, h⟩ := h
      rw [e] at e2; cases e2
      cases r with
      | @tup _ _ vs' _ rx' l c =>
        have e4 : vs = vs' := by
          have q : H b = some (.tup vs) := rx
          have q' : H b = some (.tup vs') := rx'
          rw [q] at q'; cases q'; rfl
        subst e4
        exact Rs.at_ (c n x w e e3) a h
    | str z =>
      obtain ⟨x, e, a⟩ := a
      obtain ⟨y, e2, h⟩ := h
      rw [e] at e2; cases e2
      exact Rs.at_ (.str _) a h
    | _ => exact a.elim
  | .ky k :: p, d0, o0, o, v0, v, d, r, a, h => by
    cases d0 with
    | dic kvs =>
      obtain ⟨x, e, a⟩ := a
      obtain ⟨b, vs, y, w, rfl, rx, e2, e3, h⟩ := h
      rw [e] at e2; cases e2
      cases r with
      | @dic _ _ vs' _ rx' l c =>
        have e4 : vs = vs' := by
          rcases rx with q | ⟨_, q⟩ <;> rcases rx' with q' | ⟨_, q'⟩ <;> rw [q] at q' <;> cases q' <;> rfl
        subst e4
        have key : ∀ {kvs : List (Key × D)} {ws : List (Key × V)} {w : V}, kvs.map (·.1) = ws.map (·.1) → (∀ (i : Nat) k d v, kvs[i]? = some (k, d) → ws[i]? = some (k, v) → Rs cl F H d v) → dget kvs k = some x → valV ws k = some w → Rs cl F H x w := by
          intro kvs
          induction kvs with
          | nil => intro ws w _ _ e; cases e
          | cons q r ih =>
            intro ws w l c e e'
            cases ws with
            | nil => cases l
            | cons q' s =>
              obtain ⟨k1, d1⟩ := q
              obtain ⟨k2, v1⟩ := q'
              simp only [List.map_cons, List.cons.injEq] at l
              obtain ⟨rfl, l⟩ := l
              by_cases hk : k1 = k
              · have z1 : dget ((k1, d1) :: r) k = some d1 := by simp [dget, hk]
                have z2 : valV ((k1, v1) :: s) k = some v1 := by simp [valV, hk]
                rw [z1] at e; rw [z2] at e'
                cases e; cases e'
                exact c 0 _ _ _ rfl rfl
              · have z1 : dget ((k1, d1) :: r) k = dget r k := by simp [dget, List.find?_cons, hk]
                have z2 : valV ((k1, v1) :: s) k = valV s k := by simp [valV, List.find?_cons, hk]
                rw [z1] at e; rw [z2] at e'
                exact ih l (fun i k d v h1 h2 => c (i + 1) k d v (by simpa using h1) (by simpa using h2)) e e'
        exact Rs.at_ (key l c e e3) a h
    | _ => exact a.elim

theorem At.sh {o : Ow} {d : D} : ∀ {p : List PKey} {d0 : D}, At d0 .sh p d o → o = .sh
  | [], d0, h => (show d = d0 ∧ o = .sh by cases d0 <;> exact h).2
  | .ix n :: p, d0, h => by
    cases d0 with
    | lst ds => obtain ⟨x, e, h⟩ := h; exact At.sh (show At x .sh p d o from h)
    | tup ds => obtain ⟨x, e, h⟩ := h; exact At.sh h
    | str z => obtain ⟨x, e, h⟩ := h; exact At.sh h
    | _ => exact h.elim
  | .ky k :: p, d0, h => by
    cases d0 with
    | dic kvs => obtain ⟨x, e, h⟩ := h; exact At.sh (show At x .sh p d o from h)
    | _ => exact h.elim
theorem At.tup {o o0 : Ow} {d : D} {ds : List D} {n : Nat} {p : List PKey} (h : At (.tup ds) o0 (.ix n :: p) d o) : o = .sh := by
  obtain ⟨x, e, h⟩ := h; exact At.sh h
theorem dget_ix {κ α : Type} [DecidableEq κ] {k : κ} {x : α} : ∀ {kvs : List (κ × α)}, dget kvs k = some x → ∃ i, kvs[i]? = some (k, x) ∧ ∀ (j : Nat) y, j < i → kvs[j]? ≠ some (k, y)
  | [], e => by cases e
  | (k1, d1) :: r, e => by
    by_cases hk : k1 = k
    · subst hk
      have z : dget ((k1, d1) :: r) k1 = some d1 := by simp [dget]
      rw [z] at e; cases e
      exact ⟨0, rfl, fun j y hj => by omega⟩
    · have z : dget ((k1, d1) :: r) k = dget r k := by simp [dget, List.find?_cons, hk]
      rw [z] at e
      obtain ⟨i, h1, h2⟩ := dget_ix e
      refine ⟨i + 1, by simpa using h1, fun j y hj => ?_⟩
      cases j with
      | zero => simp [hk]
      | succ j => simpa using h2 j y (by omega)
theorem valV_ix {k : Key} {x : V} {kvs : List (Key × V)} (e : valV kvs k = some x) : ∃ i, kvs[i]? = some (k, x) ∧ ∀ (j : Nat) y, j < i → kvs[j]? ≠ some (k, y) := dget_ix (α := V) e
theorem first_same {κ α β : Type} {k : κ} {x : α} {y : β} {kvs : List (κ × α)} {ws : List (κ × β)} (l : kvs.map (·.1) = ws.map (·.1)) {i j : Nat} (h1 : kvs[i]? = some (k, x)) (h2 : ∀ (m : Nat) z, m < i → kvs[m]? ≠ some (k, z)) (h3 : ws[j]? = some (k, y)) (h4 : ∀ (m : Nat) z, m < j → ws[m]? ≠ some (k, z)) : i = j := by
  rcases Nat.lt_trichotomy i j with q | q | q
  · exfalso
    obtain ⟨k', d, v, e1, e2⟩ := keyAt l (List.getElem?_eq_some_iff.mp h1).1
    rw [h1] at e1; cases e1
    exact h4 i v q e2
  · exact q
  · exfalso
    have l' := l.symm
    obtain ⟨k', d, v, e1, e2⟩ := keyAt l' (List.getElem?_eq_some_iff.mp h3).1
    rw [h3] at e1; cases e1
    exact h2 j v q e2
theorem dput_set {κ α : Type} [DecidableEq κ] {k : κ} {x y : α} {kvs : List (κ × α)} (nd : (kvs.map (·.1)).Nodup) {i : Nat} (h : kvs[i]? = some (k, x)) : dput kvs k y = kvs.set i (k, y) := by
  have hm : (kvs.any fun kv => decide (kv.1 = k)) = true := List.any_eq_true.mpr ⟨(k, x), List.mem_of_getElem? h, by simp⟩
  unfold dput
  rw [if_pos hm]
  apply List.ext_getElem?
  intro j
  rw [List.getElem?_map]
  by_cases hj : i = j
  · subst hj
    rw [h, List.getElem?_set_self (List.getElem?_eq_some_iff.mp h).1]
    simp
  · rw [List.getElem?_set_ne hj]
    cases q : kvs[j]? with
    | none => rfl
    | some z =>
      have hz : z.1 ≠ k := by
        intro e
        have e1 : (kvs.map (·.1))[i]? = some k := by rw [List.getElem?_map, h]; rfl
        have e2 : (kvs.map (·.1))[j]? = some k := by rw [List.getElem?_map, q]; simp [e]
        obtain ⟨l1, g1⟩ := List.getElem?_eq_some_iff.mp e1
        obtain ⟨l2, g2⟩ := List.getElem?_eq_some_iff.mp e2
        exact hj ((List.getElem_inj nd).mp (g1.trans g2.symm))
      simp [hz]
/-- what a part of it has been changed for -/
def Swap (fp0 fp fp' : SetA) : SetA := fun x => (fp0 x ∧ ¬ fp x) ∨ fp' x
/-- INTO A PLACE: the part by itself, and the whole with another part in its stead -/
theorem focus : ∀ {p : List PKey} {d0 : D} {o0 o : Ow} {v0 v : V} {d : D} {fp0 : SetA}, At d0 o0 p d o → Rp cl F H o0 d0 v0 fp0 → VAt H v0 d0 p v →
    ∃ fp, Rp cl F H o d v fp ∧ (∀ x, fp x → fp0 x) ∧ (o ≠ .sh → ∀ (F' : SetA) (H' : Hp) (d' : D) (fp' : SetA), (∀ a, F a → F' a) → (∀ a u, F a → Rx H a u → Rx H' a u) →
      (∀ a u, fp0 a → ¬ fp a → H a = some u → H' a = some u) → Rp cl F' H' o d' v fp' → (∀ x, fp' x → fp x ∨ ¬ fp0 x) → Rp cl F' H' o0 (d0.updAt p d') v0 (Swap fp0 fp fp'))
  | [], d0, o0, o, v0, v, d, fp0, a, r, h => by
    obtain ⟨rfl, rfl⟩ := (show d = d0 ∧ o = o0 by cases d0 <;> exact a)
    obtain rfl : v = v0 := by cases d <;> exact h
    refine ⟨fp0, r, fun _ h => h, fun _ F' H' d' fp' _ _ _ r' _ => ?_⟩
    have e : Swap fp0 fp0 fp' = fp' := funext fun x => propext ⟨fun z => by rcases z with z | z; exact absurd z.1 z.2; exact z, fun z => .inr z⟩
    rw [e]
    have e2 : d.updAt [] d' = d' := by cases d <;> rfl
    rw [e2]; exact r'
  | .ix n :: p, d0, o0, o, v0, v, d, fp0, a, r, h => by
    by_cases ho : o0 = .sh
    · subst ho
      have e := At.sh a
      subst e
      exact ⟨fun _ => False, (Rp.sh_iff cl).mpr ⟨Rs.at_ ((Rp.sh_iff cl).mp r).1 a h, fun _ z => z⟩, fun _ z => z.elim, fun z => absurd rfl z⟩
    · have nd := (Rp.nd_iff cl ho).mp r
      cases d0 with
      | lst ds =>
        obtain ⟨x, e, a⟩ := a
        obtain ⟨b, vs', y, w, rfl, rx, e2, e3, h⟩ := h
        rw [e] at e2; cases e2
        obtain ⟨b', vs, fs, eb, ha, l, ch, fam⟩ := nd
        cases eb
        have ev : vs' = vs := by
          rcases rx with q | ⟨_, q⟩ <;> rw [ha] at q <;> cases q <;> rfl
        subst ev
        have il : n < ds.length := (List.getElem?_eq_some_iff.mp e).1
        obtain ⟨fp, r1, sub, up⟩ := focus a (ch n x w e e3) h
        refine ⟨fp, r1, fun z hz => (fam.iff z).mpr (.inr ⟨n, sub z hz⟩), fun hno F' H' d' fp' hF hk hH r' hn => ?_⟩
        have inb : fp0 b := (fam.iff b).mpr (.inl rfl)
        have nb : ¬ fp b := fun z => (fam.lt n b (sub b z)).2 rfl
        have rn := up hno F' H' d' fp' hF hk (fun c u h1 h2 h3 => hH c u ((fam.iff c).mpr (.inr ⟨n, h1⟩)) h2 h3) r' (fun z hz => by
          rcases hn z hz with q | q
          · exact .inl q
          · exact .inr fun q' => q ((fam.iff z).mpr (.inr ⟨n, q'⟩)))
        have e4 : (D.lst ds).updAt (.ix n :: p) d' = .lst (ds.set n (x.updAt p d')) := by
          show D.lst (ds.set n ((ds.getD n .non).updAt p d')) = _
          rw [List.getD_eq_getElem?_getD, e]; rfl
        rw [e4]
        refine (Rp.nd_iff cl ho).mpr ⟨b, vs', fun i => if i = n then Swap (fs n) fp fp' else fs i, rfl, hH b _ inb nb ha, by simpa using l, fun i d1 v1 h1 h2 => ?_, ⟨fun i z hz => ?_, fun i j z h1 h2 => ?_, fun z => ?_⟩⟩
        · by_cases hi : i = n
          · subst hi
            rw [List.getElem?_set_self il] at h1
            cases h1
            rw [e3] at h2; cases h2
            show Rp cl F' H' _ _ _ (if _ then _ else _)
            rw [if_pos rfl]; exact rn
          · rw [List.getElem?_set_ne (Ne.symm hi)] at h1
            show Rp cl F' H' _ _ _ (if _ then _ else _)
            rw [if_neg hi]
            refine Rp.mono cl hF hk _ (fun c u h3 h4 => hH c u ((fam.iff c).mpr (.inr ⟨i, h3⟩)) (fun q => hi (fam.dj i n c h3 (sub c q))) h4) (ch i d1 v1 h1 h2)
        · by_cases hi : i = n
          · subst hi
            rw [if_pos rfl] at hz
            refine ⟨by simpa using il, ?_⟩
            rcases hz with hz | hz
            · exact (fam.lt i z hz.1).2
            · rintro rfl
              rcases hn z hz with q | q
              · exact nb q
              · exact q inb
          · rw [if_neg hi] at hz
            exact ⟨by simpa using (fam.lt i z hz).1, (fam.lt i z hz).2⟩
        · have out : ∀ j, j ≠ n → Swap (fs n) fp fp' z → ¬ fs j z := fun j hj q q' => by
            rcases q with q | q
            · exact hj (fam.dj j n z q' q.1)
            · rcases hn z q with t | t
              · exact hj (fam.dj j n z q' (sub z t))
              · exact t ((fam.iff z).mpr (.inr ⟨j, q'⟩))
          by_cases hi : i = n <;> by_cases hj : j = n
          · rw [hi, hj]
          · rw [if_pos hi] at h1; rw [if_neg hj] at h2; exact absurd h2 (out j hj h1)
          · rw [if_neg hi] at h1; rw [if_pos hj] at h2; exact absurd h1 (out i hi h2)
          · rw [if_neg hi] at h1; rw [if_neg hj] at h2; exact fam.dj i j z h1 h2
        · constructor
          · intro q
            rcases q with ⟨q, nq⟩ | q
            · rcases (fam.iff z).mp q with e | ⟨i, hi⟩
              · exact .inl e
              · refine .inr ⟨i, ?_⟩
                by_cases hin : i = n
                · subst hin; rw [if_pos rfl]; exact .inl ⟨hi, nq⟩
                · rw [if_neg hin]; exact hi
            · exact .inr ⟨n, by rw [if_pos rfl]; exact .inr q⟩
          · intro q
            rcases q with rfl | ⟨i, hi⟩
            · exact .inl ⟨inb, nb⟩
            · by_cases hin : i = n
              · subst hin
                rw [if_pos rfl] at hi
                rcases hi with q | q
                · exact .inl ⟨(fam.iff z).mpr (.inr ⟨i, q.1⟩), q.2⟩
                · exact .inr q
              · rw [if_neg hin] at hi
                exact .inl ⟨(fam.iff z).mpr (.inr ⟨i, hi⟩), fun q => hin (fam.dj i n z hi (sub z q))⟩
      | tup ds =>
        have e := At.tup a
        subst e
        exact ⟨fun _ => False, (Rp.sh_iff cl).mpr ⟨Rs.at_ (show Rs cl F H (.tup ds) v0 ∧ _ from nd).1 a h, fun _ z => z⟩, fun _ z => z.elim, fun z => absurd rfl z⟩
      | str s =>
        have e : o = .sh := by obtain ⟨x, e, a⟩ := a; exact At.sh a
        subst e
        exact ⟨fun _ => False, (Rp.sh_iff cl).mpr ⟨Rs.at_ (show Rs cl F H (.str s) v0 ∧ _ from nd).1 a h, fun _ z => z⟩, fun _ z => z.elim, fun z => absurd rfl z⟩
      | _ => exact a.elim
  | .ky k :: p, d0, o0, o, v0, v, d, fp0, a, r, h => by
    by_cases ho : o0 = .sh
    · subst ho
      have e := At.sh a
      subst e
      exact ⟨fun _ => False, (Rp.sh_iff cl).mpr ⟨Rs.at_ ((Rp.sh_iff cl).mp r).1 a h, fun _ z => z⟩, fun _ z => z.elim, fun z => absurd rfl z⟩
    · have nd := (Rp.nd_iff cl ho).mp r
      cases d0 with
      | dic ds =>
        obtain ⟨x, e, a⟩ := a
        obtain ⟨b, vs', y, w, rfl, rx, e2, e3, h⟩ := h
        rw [e] at e2; cases e2
        obtain ⟨b', vs, fs, eb, ha, ⟨ndup, l⟩, ch, fam⟩ := nd
        cases eb
        have ev : vs' = vs := by
          rcases rx with q | ⟨_, q⟩ <;> rw [ha] at q <;> cases q <;> rfl
        subst ev
        obtain ⟨n, g1, g2⟩ := dget_ix e
        obtain ⟨n', g3, g4⟩ := valV_ix e3
        have en := first_same l g1 g2 g3 g4
        subst en
        have il : n < ds.length := (List.getElem?_eq_some_iff.mp g1).1
        obtain ⟨fp, r1, sub, up⟩ := focus a (ch n k x w g1 g3) h
        refine ⟨fp, r1, fun z hz => (fam.iff z).mpr (.inr ⟨n, sub z hz⟩), fun hno F' H' d' fp' hF hk hH r' hn => ?_⟩
        have inb : fp0 b := (fam.iff b).mpr (.inl rfl)
        have nb : ¬ fp b := fun z => (fam.lt n b (sub b z)).2 rfl
        have rn := up hno F' H' d' fp' hF hk (fun c u h1 h2 h3 => hH c u ((fam.iff c).mpr (.inr ⟨n, h1⟩)) h2 h3) r' (fun z hz => by
          rcases hn z hz with q | q
          · exact .inl q
          · exact .inr fun q' => q ((fam.iff z).mpr (.inr ⟨n, q'⟩)))
        have e4 : (D.dic ds).updAt (.ky k :: p) d' = .dic (ds.set n (k, x.updAt p d')) := by
          show D.dic (dput ds k (((dget ds k).getD .non).updAt p d')) = _
          rw [e, dput_set ndup g1]; rfl
        rw [e4]
        have mk : (ds.set n (k, x.updAt p d')).map (·.1) = ds.map (·.1) := by
          rw [List.map_set]
          apply List.ext_getElem?
          intro j
          by_cases hj : n = j
          · subst hj; rw [List.getElem?_set_self (by simpa using il), List.getElem?_map, g1]; rfl
          · rw [List.getElem?_set_ne hj]
        refine (Rp.nd_iff cl ho).mpr ⟨b, vs', fun i => if i = n then Swap (fs n) fp fp' else fs i, rfl, hH b _ inb nb ha, ⟨by rw [mk]; exact ndup, by rw [mk]; exact l⟩, fun i k1 d1 v1 h1 h2 => ?_, ⟨fun i z hz => ?_, fun i j z h1 h2 => ?_, fun z => ?_⟩⟩
        · by_cases hi : i = n
          · subst hi
            rw [List.getElem?_set_self il] at h1
            cases h1
            rw [g3] at h2; cases h2
            show Rp cl F' H' _ _ _ (if _ then _ else _)
            rw [if_pos rfl]; exact rn
          · rw [List.getElem?_set_ne (Ne.symm hi)] at h1
            show Rp cl F' H' _ _ _ (if _ then _ else _)
            rw [if_neg hi]
            refine Rp.mono cl hF hk _ (fun c u h3 h4 => hH c u ((fam.iff c).mpr (.inr ⟨i, h3⟩)) (fun q => hi (fam.dj i n c h3 (sub c q))) h4) (ch i k1 d1 v1 h1 h2)
        · by_cases hi : i = n
          · subst hi
            rw [if_pos rfl] at hz
            refine ⟨by simpa using il, ?_⟩
            rcases hz with hz | hz
            · exact (fam.lt i z hz.1).2
            · rintro rfl
              rcases hn z hz with q | q
              · exact nb q
              · exact q inb
          · rw [if_neg hi] at hz
            exact ⟨by simpa using (fam.lt i z hz).1, (fam.lt i z hz).2⟩
        · have out : ∀ j, j ≠ n → Swap (fs n) fp fp' z → ¬ fs j z := fun j hj q q' => by
            rcases q with q | q
            · exact hj (fam.dj j n z q' q.1)
            · rcases hn z q with t | t
              · exact hj (fam.dj j n z q' (sub z t))
              · exact t ((fam.iff z).mpr (.inr ⟨j, q'⟩))
          by_cases hi : i = n <;> by_cases hj : j = n
          · rw [hi, hj]
          · rw [if_pos hi] at h1; rw [if_neg hj] at h2; exact absurd h2 (out j hj h1)
          · rw [if_neg hi] at h1; rw [if_pos hj] at h2; exact absurd h1 (out i hi h2)
          · rw [if_neg hi] at h1; rw [if_neg hj] at h2; exact fam.dj i j z h1 h2
        · constructor
          · intro q
            rcases q with ⟨q, nq⟩ | q
            · rcases (fam.iff z).mp q with e | ⟨i, hi⟩
              · exact .inl e
              · refine .inr ⟨i, ?_⟩
                by_cases hin : i = n
                · subst hin; rw [if_pos rfl]; exact .inl ⟨hi, nq⟩
                · rw [if_neg hin]; exact hi
            · exact .inr ⟨n, by rw [if_pos rfl]; exact .inr q⟩
          · intro q
            rcases q with rfl | ⟨i, hi⟩
            · exact .inl ⟨inb, nb⟩
            · by_cases hin : i = n
              · subst hin
                rw [if_pos rfl] at hi
                rcases hi with q | q
                · exact .inl ⟨(fam.iff z).mpr (.inr ⟨i, q.1⟩), q.2⟩
                · exact .inr q
              · rw [if_neg hin] at hi
                exact .inl ⟨(fam.iff z).mpr (.inr ⟨i, hi⟩), fun q => hin (fam.dj i n z hi (sub z q))⟩
      | _ => exact a.elim
end
end DL
/-! DL8: a part of what a slot holds is changed: append, pop, store. -/
namespace DL
open PySem PySem.Spec PyProof.Rows L2
section
variable {cl : Str → Addr} {b : Bs} {σ : L2.St} {H H' : Hp} {ρ : DEnv} {ts us us' : List Cell}
/-- one node and the things at hand (hs: what they hold) turn into another node and other things at hand -/
structure NodeOp (cl : Str → Addr) (H H' : Hp) (o : Ow) (d d' : D) (v : V) (us us' : List Cell) (F : SetA) (fp : SetA) (hs : Nat → SetA) where
  F' : SetA
  fp' : SetA
  g : Nat → SetA
  hF : ∀ x, F x → F' x
  hFn : ∀ x, F' x → F x ∨ ∃ k, hs k x
  hH : ∀ a u, H a = some u → ¬ fp a → (∀ k, ¬ hs k a) → H' a = some u
  hT : ∀ a u, H a = some u → ∃ u', H' a = some u'
  rp : Rp cl F' H' o d' v fp'
  rg : ∀ (k : Nat) v d o, us'[k]? = some (v, d, o) → Rp cl F' H' o d v (g k)
  gl : ∀ k x, g k x → k < us'.length
  f1 : ∀ x, fp' x → (fp x ∨ ∃ k, hs k x) ∧ ¬ F' x
  g1 : ∀ k x, g k x → (fp x ∨ ∃ k, hs k x) ∧ ¬ F' x
  d1 : ∀ k x, g k x → ¬ fp' x
  d2 : ∀ k j x, g k x → g j x → k = j
theorem Rst.change {s : Nat} {d0 d d' : D} {o0 o : Ow} {p : List PKey} {v : V} (R : Rst cl b σ H ρ (ts ++ us)) (hs : ρ[s]? = some (some (d0, o0))) (a : At d0 o0 p d o) (va : ∀ v0, σ[s]? = some (some v0) → VAt H v0 d0 p v) (ho : o ≠ .sh)
    (op : ∀ (F fp : SetA) (hs : Nat → SetA), Rp cl F H o d v fp → (∀ (k : Nat) v d o, us[k]? = some (v, d, o) → Rp cl F H o d v (hs k)) → (∀ k x, hs k x → k < us.length) → (∀ k x, hs k x → ¬ fp x) → (∀ j k x, hs j x → hs k x → j = k) → (∀ x, fp x → ¬ F x) → (∀ k x, hs k x → ¬ F x) →
      Nonempty (NodeOp cl H H' o d d' v us us' F fp hs)) : Rst cl b σ H' (ρ.set s (some (d0.updAt p d', o0))) (ts ++ us') := by
  obtain ⟨S, F, fs, sl, W⟩ := R
  obtain ⟨v0, e1, e2⟩ := sl.get hs
  have il : s < S.length := (List.getElem?_eq_some_iff.mp e1).1
  have r0 := W.rp (.inl s) v0 d0 o0 (cells_at e1)
  obtain ⟨fp, r1, sub, up⟩ := focus a r0 (va v0 e2)
  let hf : Nat → SetA := fun k => fs (.inr (ts.length + k))
  have hlt : ∀ k x, hf k x → k < us.length := fun k x h => by
    obtain ⟨c, e⟩ := W.occ _ _ h
    have e' : (ts ++ us)[ts.length + k]? = some c := e
    rw [List.getElem?_append_right (Nat.le_add_right _ _), Nat.add_sub_cancel_left] at e'
    exact (List.getElem?_eq_some_iff.mp e').1
  have h01 : ∀ k x, hf k x → ¬ fs (.inl s) x := fun k x h q => by have := W.dj _ _ x h q; cases this
  obtain ⟨N⟩ := op F fp hf r1 (fun k v d o e => W.temp e) hlt (fun k x h q => h01 k x h (sub x q)) (fun j k x h q => by
    have := Sum.inr.inj (W.dj _ _ x h q); omega) (fun x h => W.df _ x (sub x h)) (fun k x h => W.df _ x h)
  have hFt : ∀ x, N.F' x → ∃ o, H' x = some o := fun x h => by
    rcases N.hFn x h with q | ⟨k, q⟩
    · obtain ⟨u, e⟩ := W.aF x q; exact N.hT x u e
    · obtain ⟨u, e⟩ := W.there q; exact N.hT x u e
  have hk : ∀ c u, F c → Rx H c u → Rx H' c u := fun c u hc r => Rx.same (fun u e => N.hH c u e (fun q => W.df _ c (sub c q) hc) fun k q => W.df _ c q hc) r
  have rN := up ho N.F' H' d' N.fp' N.hF hk (fun c u h1 h2 h3 => N.hH c u h3 h2 fun k q => h01 k c q h1) N.rp (fun x hx => by
    rcases (N.f1 x hx).1 with q | ⟨k, q⟩
    · exact .inl q
    · exact .inr (h01 k x q))
  let g : Sum Nat Nat → SetA := fun q x => match q with
    | .inl j => j = s ∧ Swap (fs (.inl s)) fp N.fp' x
    | .inr k => N.g k x
  have hN : ∀ x, (fp x ∨ ∃ k, hf k x) → Held fs (fun j => j = s) ts.length x := fun x h => by
    rcases h with h | ⟨k, h⟩
    · exact .inl ⟨s, rfl, sub x h⟩
    · exact .inr ⟨_, Nat.le_add_right _ k, h⟩
  have swF : ∀ x, Swap (fs (.inl s)) fp N.fp' x → Held fs (fun j => j = s) ts.length x ∧ ¬ N.F' x := fun x h => by
    rcases h with ⟨h1, h2⟩ | h
    · refine ⟨.inl ⟨s, rfl, h1⟩, fun q => ?_⟩
      rcases N.hFn x q with q | ⟨k, q⟩
      · exact W.df _ x h1 q
      · exact h01 k x q h1
    · exact ⟨hN x (N.f1 x h).1, (N.f1 x h).2⟩
  have gsw : ∀ k x, N.g k x → ¬ Swap (fs (.inl s)) fp N.fp' x := fun k x h q => by
    rcases q with ⟨q1, q2⟩ | q
    · rcases (N.g1 k x h).1 with z | ⟨j, z⟩
      · exact q2 z
      · exact h01 j x z q1
    · exact N.d1 k x h q
  obtain ⟨fs', W'⟩ := W.turn (S' := S.set s (some (v0, d0.updAt p d', o0))) (us' := us') (H' := H') (F' := N.F') (fun j => j = s) g (fun j hj => List.getElem?_set_ne (Ne.symm hj))
    (fun c u e hn => N.hH c u e (fun q => hn (hN c (.inl q))) fun k q => hn (hN c (.inr ⟨k, q⟩))) N.hF (fun x h => by
      rcases N.hFn x h with q | ⟨k, q⟩
      · exact .inl q
      · exact .inr (.inl (hN x (.inr ⟨k, q⟩)))) hFt
    (fun j v' d1 o1 hj e => by
      subst hj
      rw [List.getElem?_set_self il] at e
      cases e
      have e3 : g (.inl j) = Swap (fs (.inl j)) fp N.fp' := funext fun x => propext ⟨fun h => h.2, fun h => ⟨rfl, h⟩⟩
      rw [e3]; exact rN) (fun k v1 d1 o1 e => N.rg k v1 d1 o1 e) (fun j x z => ⟨(v0, d0.updAt p d', o0), by rw [z.1]; exact List.getElem?_set_self il⟩) (fun k x z => N.gl k x z) (fun q x z => by
      cases q with
      | inl j => exact ⟨.inl (swF x z.2).1, (swF x z.2).2⟩
      | inr k => exact ⟨.inl (hN x (N.g1 k x z).1), (N.g1 k x z).2⟩) (fun q q' x h1 h2 => by
      cases q with
      | inl j =>
        cases q' with
        | inl j' => rw [h1.1, h2.1]
        | inr k => exact absurd h1.2 (gsw k x h2)
      | inr k =>
        cases q' with
        | inl j' => exact absurd h2.2 (gsw k x h1)
        | inr k' => rw [N.d2 k k' x h1 h2])
  exact ⟨_, N.F', fs', sl.put e1 _ _, W'⟩
theorem Rp.lst {F fp : SetA} {o : Ow} (ho : o ≠ .sh) {ds : List D} {v : V} (r : Rp cl F H o (.lst ds) v fp) : ∃ (a : Addr) (vs : List V) (fs : Nat → SetA), v = .ref a ∧ H a = some (.lst vs) ∧ ds.length = vs.length ∧
    (∀ (i : Nat) d v, ds[i]? = some d → vs[i]? = some v → Rp cl F H (o.child (.inl 0)) d v (fs i)) ∧ Fam a ds.length fs fp := (Rp.nd_iff cl ho).mp r
theorem Rp.dic {F fp : SetA} {o : Ow} (ho : o ≠ .sh) {kvs : List (Key × D)} {v : V} (r : Rp cl F H o (.dic kvs) v fp) : ∃ (a : Addr) (ws : List (Key × V)) (fs : Nat → SetA), v = .ref a ∧ H a = some (.dK ws) ∧ ((kvs.map (·.1)).Nodup ∧ kvs.map (·.1) = ws.map (·.1)) ∧
    (∀ (i : Nat) k d v, kvs[i]? = some (k, d) → ws[i]? = some (k, v) → Rp cl F H (o.child k) d v (fs i)) ∧ Fam a kvs.length fs fp := (Rp.nd_iff cl ho).mp r
/-- how a thing at hand may become a child -/
structure Child (cl : Str → Addr) (F F' : SetA) (H H' : Hp) (c : Ow) (x : D) (w : V) (h0 f0 : SetA) : Prop where
  rp : Rp cl F' H' c x w f0
  hF : ∀ y, F y → F' y
  hFn : ∀ y, F' y → F y ∨ h0 y
  sub : ∀ y, f0 y → h0 y ∧ ¬ F' y
theorem child_of {F : SetA} {H H' : Hp} {c ox : Ow} {x : D} {w : V} {h0 : SetA} (r : Rp cl F H ox x w h0) (hf : ∀ y, h0 y → ¬ F y) (hH : ∀ a u, (F a ∨ h0 a) → H a = some u → H' a = some u) (hc : x.flat = true ∨ c = .sh ∨ c = ox) :
    ∃ F' f0, Child cl F F' H H' c x w h0 f0 := by
  by_cases hx : x.flat = true
  · obtain ⟨e1, e2⟩ := (Rp.flat hx).mp r
    exact ⟨F, fun _ => False, (Rp.flat hx).mpr ⟨e1, fun _ z => z⟩, fun _ h => h, fun _ h => .inl h, fun _ z => z.elim⟩
  · by_cases hs : c = .sh
    · subst hs
      refine ⟨fun y => F y ∨ h0 y, fun _ => False, (Rp.sh_iff cl).mpr ⟨?_, fun _ z => z⟩, fun _ h => .inl h, fun _ h => h, fun _ z => z.elim⟩
      exact (Rp.freeze cl (F := F) (F' := fun y => F y ∨ h0 y) (fun _ h => .inl h) ox (fun _ h => .inr h) r).mono cl (fun _ h => h) fun a u ha q => Rx.same (fun o e => hH a o ha e) q
    · have e : c = ox := by rcases hc with q | q | q; exact absurd q hx; exact absurd q hs; exact q
      subst e
      exact ⟨F, h0, Rp.mono cl (fun _ h => h) (fun a u ha q => Rx.same (fun o e => hH a o (.inl ha) e) q) c (fun a u ha e => hH a u (.inr ha) e) r, fun _ h => h, fun _ h => .inl h, fun y hy => ⟨hy, hf y hy⟩⟩
/-- a list takes one more -/
theorem append_op {x : D} {o ox : Ow} {v w : V} {ds : List D} {a : Addr} {vs : List V} (ho : o ≠ .sh) (hv : v = .ref a) (ha : H a = some (.lst vs)) (hc : x.flat = true ∨ o.child (.inl 0) = .sh ∨ o.child (.inl 0) = ox) :
    ∀ (F fp : SetA) (hs : Nat → SetA), Rp cl F H o (.lst ds) v fp → (∀ (k : Nat) v d o, [(w, x, ox)][k]? = some (v, d, o) → Rp cl F H o d v (hs k)) → (∀ k x', hs k x' → k < [(w, x, ox)].length) → (∀ k x, hs k x → ¬ fp x) → (∀ j k x, hs j x → hs k x → j = k) → (∀ x, fp x → ¬ F x) → (∀ k x, hs k x → ¬ F x) →
      Nonempty (NodeOp cl H (upd H a (.lst (vs ++ [w]))) o (.lst ds) (.lst (ds ++ [x])) v [(w, x, ox)] [] F fp hs) := by
  intro F fp hf r rt hlt hfp hdj hF1 hF2
  obtain ⟨a', vs', fs, e1, e2, l, ch, fam⟩ := Rp.lst ho r
  rw [hv] at e1; cases e1
  rw [ha] at e2; cases e2
  have ina : fp a := (fam.iff a).mpr (.inl rfl)
  have hup : ∀ c u, c ≠ a → H c = some u → upd H a (.lst (vs ++ [w])) c = some u := fun c u hc e => by rw [upd_ne hc]; exact e
  obtain ⟨F', f0, C⟩ := child_of (cl := cl) (H' := upd H a (.lst (vs ++ [w]))) (c := o.child (.inl 0)) (rt 0 w x ox rfl) (hF2 0) (fun c u hc e => hup c u (by
    rintro rfl
    rcases hc with q | q
    · exact hF1 c ina q
    · exact hfp 0 c q ina) e) hc
  refine ⟨⟨F', fun y => fp y ∨ f0 y, fun _ _ => False, C.hF, fun y h => by rcases C.hFn y h with q | q; exact .inl q; exact .inr ⟨0, q⟩, fun c u e h1 _ => hup c u (fun z => h1 (z ▸ ina)) e, fun c u e => by
    by_cases hca : c = a
    · subst hca; exact ⟨_, upd_same⟩
    · exact ⟨u, hup c u hca e⟩, ?_, fun k v d o e => by simp at e, fun _ _ z => z.elim, fun y h => ?_, fun _ _ z => z.elim, fun _ _ z => z.elim, fun _ _ _ z => z.elim⟩⟩
  · refine (Rp.nd_iff cl ho).mpr ⟨a, vs ++ [w], fun i => if i = ds.length then f0 else fs i, hv, upd_same, by simp [l], fun i d1 v1 h1 h2 => ?_, ⟨fun i y hy => ?_, fun i j y h1 h2 => ?_, fun y => ?_⟩⟩
    · show Rp cl F' _ (o.child (.inl 0)) d1 v1 (if _ then _ else _)
      by_cases hi : i = ds.length
      · subst hi
        rw [if_pos rfl]
        rw [List.getElem?_append_right (Nat.le_refl _), Nat.sub_self] at h1
        rw [List.getElem?_append_right (by omega), l, Nat.sub_self] at h2
        cases h1; cases h2
        exact C.rp
      · rw [if_neg hi]
        have hl : i < ds.length := by have := (List.getElem?_eq_some_iff.mp h1).1; simp at this; omega
        rw [List.getElem?_append_left hl] at h1
        rw [List.getElem?_append_left (by omega)] at h2
        refine Rp.mono cl C.hF (fun c u hc q => Rx.same (fun u e => hup c u (by rintro rfl; exact hF1 c ina hc) e) q) _ (fun c u hc e => hup c u (fam.lt i c hc).2 e) (ch i d1 v1 h1 h2)
    · by_cases hi : i = ds.length
      · subst hi
        rw [if_pos rfl] at hy
        exact ⟨by simp, by rintro rfl; exact hfp 0 y (C.sub y hy).1 ina⟩
      · rw [if_neg hi] at hy
        have := fam.lt i y hy
        exact ⟨by simp; omega, this.2⟩
    · have out : ∀ j y, fs j y → ¬ f0 y := fun j y q q' => hfp 0 y (C.sub y q').1 ((fam.iff y).mpr (.inr ⟨j, q⟩))
      by_cases hi : i = ds.length <;> by_cases hj : j = ds.length
      · rw [hi, hj]
      · rw [if_pos hi] at h1; rw [if_neg hj] at h2; exact absurd h1 (out j y h2)
      · rw [if_neg hi] at h1; rw [if_pos hj] at h2; exact absurd h2 (out i y h1)
      · rw [if_neg hi] at h1; rw [if_neg hj] at h2; exact fam.dj i j y h1 h2
    · constructor
      · rintro (q | q)
        · rcases (fam.iff y).mp q with e | ⟨i, q⟩
          · exact .inl e
          · exact .inr ⟨i, by rw [if_neg (by have := (fam.lt i y q).1; omega)]; exact q⟩
        · exact .inr ⟨ds.length, by rw [if_pos rfl]; exact q⟩
      · rintro (rfl | ⟨i, q⟩)
        · exact .inl ina
        · by_cases hi : i = ds.length
          · rw [if_pos hi] at q; exact .inr q
          · rw [if_neg hi] at q; exact .inl ((fam.iff y).mpr (.inr ⟨i, q⟩))
  · rcases h with q | q
    · refine ⟨.inl q, fun z => ?_⟩
      rcases C.hFn y z with z | z
      · exact hF1 y q z
      · exact hfp 0 y z q
    · exact ⟨.inr ⟨0, (C.sub y q).1⟩, (C.sub y q).2⟩
/-- pl.append(x) -/
theorem Rst.append {s : Nat} {d0 x : D} {o0 o ox : Ow} {p : List PKey} {v w : V} {ds : List D} {a : Addr} {vs : List V} (R : Rst cl b σ H ρ (ts ++ [(w, x, ox)])) (hs : ρ[s]? = some (some (d0, o0))) (at_ : At d0 o0 p (.lst ds) o) (va : ∀ v0, σ[s]? = some (some v0) → VAt H v0 d0 p v) (ho : o ≠ .sh)
    (hv : v = .ref a) (ha : H a = some (.lst vs)) (hc : x.flat = true ∨ o.child (.inl 0) = .sh ∨ o.child (.inl 0) = ox) : Rst cl b σ (upd H a (.lst (vs ++ [w]))) (ρ.set s (some (d0.updAt p (.lst (ds ++ [x])), o0))) ts := by
  have key := Rst.change (us' := []) (H' := upd H a (.lst (vs ++ [w]))) (d' := .lst (ds ++ [x])) R hs at_ va ho (append_op ho hv ha hc)
  rw [List.append_nil] at key
  exact key
/-- a thing at hand changes, with what lies behind it -/
theorem Rst.changeT {d d' : D} {o : Ow} {v : V} (R : Rst cl b σ H ρ (ts ++ (v, d, o) :: us))
    (op : ∀ (F fp : SetA) (hs : Nat → SetA), Rp cl F H o d v fp → (∀ (k : Nat) v d o, us[k]? = some (v, d, o) → Rp cl F H o d v (hs k)) → (∀ k x, hs k x → k < us.length) → (∀ k x, hs k x → ¬ fp x) → (∀ j k x, hs j x → hs k x → j = k) → (∀ x, fp x → ¬ F x) → (∀ k x, hs k x → ¬ F x) →
      Nonempty (NodeOp cl H H' o d d' v us us' F fp hs)) : Rst cl b σ H' ρ (ts ++ (v, d', o) :: us') := by
  obtain ⟨S, F, fs, sl, W⟩ := R
  let hf : Nat → SetA := fun k => fs (.inr (ts.length + (k + 1)))
  have hlt : ∀ k x, hf k x → k < us.length := fun k x h => by
    obtain ⟨c, e⟩ := W.occ _ _ h
    have e' : (ts ++ (v, d, o) :: us)[ts.length + (k + 1)]? = some c := e
    rw [List.getElem?_append_right (Nat.le_add_right _ _), Nat.add_sub_cancel_left, List.getElem?_cons_succ] at e'
    exact (List.getElem?_eq_some_iff.mp e').1
  have r1 : Rp cl F H o d v (fs (.inr (ts.length + 0))) := W.temp (k := 0) rfl
  obtain ⟨N⟩ := op F (fs (.inr (ts.length + 0))) hf r1 (fun k v d o e => W.temp (k := k + 1) e) hlt (fun k x h q => by
    have := Sum.inr.inj (W.dj _ _ x h q); omega) (fun j k x h q => by
    have := Sum.inr.inj (W.dj _ _ x h q); omega) (fun x h => W.df _ x h) (fun k x h => W.df _ x h)
  have hFt : ∀ x, N.F' x → ∃ o, H' x = some o := fun x h => by
    rcases N.hFn x h with q | ⟨k, q⟩
    · obtain ⟨u, e⟩ := W.aF x q; exact N.hT x u e
    · obtain ⟨u, e⟩ := W.there q; exact N.hT x u e
  let g : Sum Nat Nat → SetA := fun q x => match q with
    | .inl _ => False
    | .inr 0 => N.fp' x
    | .inr (k + 1) => N.g k x
  have hN : ∀ x, (fs (.inr (ts.length + 0)) x ∨ ∃ k, hf k x) → Held fs noJ ts.length x := fun x h => by
    rcases h with h | ⟨k, h⟩
    · exact .inr ⟨_, Nat.le_add_right _ 0, h⟩
    · exact .inr ⟨_, Nat.le_add_right _ (k + 1), h⟩
  obtain ⟨fs', W'⟩ := W.turn (S' := S) (us' := (v, d', o) :: us') (H' := H') (F' := N.F') noJ g (fun _ _ => rfl)
    (fun c u e hn => N.hH c u e (fun q => hn (hN c (.inl q))) fun k q => hn (hN c (.inr ⟨k, q⟩))) N.hF (fun x h => by
      rcases N.hFn x h with q | ⟨k, q⟩
      · exact .inl q
      · exact .inr (.inl (hN x (.inr ⟨k, q⟩)))) hFt
    (fun _ _ _ _ z => z.elim) (fun k v1 d1 o1 e => by
      cases k with
      | zero => cases e; exact N.rp
      | succ k => exact N.rg k v1 d1 o1 e) (fun _ _ z => z.elim) (fun k x z => by
      cases k with
      | zero => exact Nat.zero_lt_succ _
      | succ k => exact Nat.succ_lt_succ (N.gl k x z)) (fun q x z => by
      match q, z with
      | .inr 0, z => exact ⟨.inl (hN x (N.f1 x z).1), (N.f1 x z).2⟩
      | .inr (k + 1), z => exact ⟨.inl (hN x (N.g1 k x z).1), (N.g1 k x z).2⟩) (fun q q' x h1 h2 => by
      match q, q', h1, h2 with
      | .inr 0, .inr 0, _, _ => rfl
      | .inr 0, .inr (k + 1), h1, h2 => exact absurd h1 (N.d1 k x h2)
      | .inr (k + 1), .inr 0, h1, h2 => exact absurd h2 (N.d1 k x h1)
      | .inr (k + 1), .inr (j + 1), h1, h2 => rw [N.d2 k j x h1 h2])
  exact ⟨S, N.F', fs', sl, W'⟩
theorem Rst.appendT {x : D} {c ox : Ow} {w : V} {ds : List D} {a : Addr} {vs : List V} (R : Rst cl b σ H ρ (ts ++ [(.ref a, .lst ds, .own c), (w, x, ox)])) (ha : H a = some (.lst vs)) (hc : x.flat = true ∨ c = .sh ∨ c = ox) : Rst cl b σ (upd H a (.lst (vs ++ [w]))) ρ (ts ++ [(.ref a, .lst (ds ++ [x]), .own c)]) :=
  Rst.changeT R (append_op (by simp) rfl ha hc)

/-- pl[n] = x, a list -/
theorem Rst.setL {s : Nat} {d0 x : D} {o0 o ox : Ow} {p : List PKey} {v w : V} {ds : List D} {a : Addr} {vs : List V} {n : Nat} (R : Rst cl b σ H ρ (ts ++ [(w, x, ox)])) (hs : ρ[s]? = some (some (d0, o0))) (at_ : At d0 o0 p (.lst ds) o) (va : ∀ v0, σ[s]? = some (some v0) → VAt H v0 d0 p v) (ho : o ≠ .sh)
    (hv : v = .ref a) (ha : H a = some (.lst vs)) (hn : n < ds.length) (hc : x.flat = true ∨ o.child (.inl 0) = .sh ∨ o.child (.inl 0) = ox) : Rst cl b σ (upd H a (.lst (vs.set n w))) (ρ.set s (some (d0.updAt p (.lst (ds.set n x)), o0))) ts := by
  have key := Rst.change (us' := []) (H' := upd H a (.lst (vs.set n w))) (d' := .lst (ds.set n x)) R hs at_ va ho fun F fp hf r rt hlt hfp hdj hF1 hF2 => by
    obtain ⟨a', vs', fs, e1, e2, l, ch, fam⟩ := Rp.lst ho r
    rw [hv] at e1; cases e1
    rw [ha] at e2; cases e2
    have ina : fp a := (fam.iff a).mpr (.inl rfl)
    have hup : ∀ c u, c ≠ a → H c = some u → upd H a (.lst (vs.set n w)) c = some u := fun c u hc e => by rw [upd_ne hc]; exact e
    obtain ⟨F', f0, C⟩ := child_of (cl := cl) (H' := upd H a (.lst (vs.set n w))) (c := o.child (.inl 0)) (rt 0 w x ox rfl) (hF2 0) (fun c u hc e => hup c u (by
      rintro rfl
      rcases hc with q | q
      · exact hF1 c ina q
      · exact hfp 0 c q ina) e) hc
    have inf : ∀ {i y}, fs i y → fp y := fun {i y} h => (fam.iff y).mpr (.inr ⟨i, h⟩)
    refine ⟨⟨F', fun y => y = a ∨ ∃ i, (if i = n then f0 else fs i) y, fun _ _ => False, C.hF, fun y h => by rcases C.hFn y h with q | q; exact .inl q; exact .inr ⟨0, q⟩, fun c u e h1 _ => hup c u (fun z => h1 (z ▸ ina)) e, fun c u e => by
      by_cases hca : c = a
      · subst hca; exact ⟨_, upd_same⟩
      · exact ⟨u, hup c u hca e⟩, ?_, fun k v d o e => by simp at e, fun _ _ z => z.elim, fun y h => ?_, fun _ _ z => z.elim, fun _ _ z => z.elim, fun _ _ _ z => z.elim⟩⟩
    · refine (Rp.nd_iff cl ho).mpr ⟨a, vs.set n w, fun i => if i = n then f0 else fs i, hv, upd_same, by simp [l], fun i d1 v1 h1 h2 => ?_, ⟨fun i y hy => ?_, fun i j y h1 h2 => ?_, fun y => Iff.rfl⟩⟩
      · show Rp cl F' _ (o.child (.inl 0)) d1 v1 (if _ then _ else _)
        by_cases hi : i = n
        · subst hi
          rw [if_pos rfl]
          rw [List.getElem?_set_self hn] at h1
          rw [List.getElem?_set_self (by omega)] at h2
          cases h1; cases h2
          exact C.rp
        · rw [if_neg hi]
          rw [List.getElem?_set_ne (Ne.symm hi)] at h1 h2
          refine Rp.mono cl C.hF (fun c u hc q => Rx.same (fun u e => hup c u (by rintro rfl; exact hF1 c ina hc) e) q) _ (fun c u hc e => hup c u (fam.lt i c hc).2 e) (ch i d1 v1 h1 h2)
      · by_cases hi : i = n
        · subst hi
          rw [if_pos rfl] at hy
          exact ⟨by simpa using hn, by rintro rfl; exact hfp 0 y (C.sub y hy).1 ina⟩
        · rw [if_neg hi] at hy
          have := fam.lt i y hy
          exact ⟨by simpa using this.1, this.2⟩
      · have out : ∀ j y, fs j y → ¬ f0 y := fun j y q q' => hfp 0 y (C.sub y q').1 (inf q)
        by_cases hi : i = n <;> by_cases hj : j = n
        · rw [hi, hj]
        · rw [if_pos hi] at h1; rw [if_neg hj] at h2; exact absurd h1 (out j y h2)
        · rw [if_neg hi] at h1; rw [if_pos hj] at h2; exact absurd h2 (out i y h1)
        · rw [if_neg hi] at h1; rw [if_neg hj] at h2; exact fam.dj i j y h1 h2
    · have old : fp y → ¬ F' y := fun q z => by
        rcases C.hFn y z with z | z
        · exact hF1 y q z
        · exact hfp 0 y z q
      rcases h with rfl | ⟨i, h⟩
      · exact ⟨.inl ina, old ina⟩
      · by_cases hi : i = n
        · rw [if_pos hi] at h; exact ⟨.inr ⟨0, (C.sub y h).1⟩, (C.sub y h).2⟩
        · rw [if_neg hi] at h; exact ⟨.inl (inf h), old (inf h)⟩
  rw [List.append_nil] at key
  exact key
/-- pl.pop(n) -/
theorem Rst.pop {s : Nat} {d0 x : D} {o0 o : Ow} {p : List PKey} {v : V} {ds : List D} {a : Addr} {vs : List V} {n : Nat} (R : Rst cl b σ H ρ ts) (hs : ρ[s]? = some (some (d0, o0))) (at_ : At d0 o0 p (.lst ds) o) (va : ∀ v0, σ[s]? = some (some v0) → VAt H v0 d0 p v) (ho : o ≠ .sh)
    (hv : v = .ref a) (ha : H a = some (.lst vs)) (hn : ds[n]? = some x) : ∃ w, vs[n]? = some w ∧ Rst cl b σ (upd H a (.lst (vs.eraseIdx n))) (ρ.set s (some (d0.updAt p (.lst (ds.eraseIdx n)), o0))) (ts ++ [(w, x, o.child (.inl 0))]) := by
  have il : n < ds.length := (List.getElem?_eq_some_iff.mp hn).1
  have l0 : ds.length = vs.length := by
    obtain ⟨S, F, fs, sl, W⟩ := R
    obtain ⟨v0, e1, e2⟩ := sl.get hs
    obtain ⟨fp, r1, _, _⟩ := focus at_ (W.rp (.inl s) v0 d0 o0 (cells_at e1)) (va v0 e2)
    obtain ⟨a', vs', fs, e1, e2, l, ch, fam⟩ := Rp.lst ho r1
    rw [hv] at e1; cases e1
    rw [ha] at e2; cases e2
    exact l
  have iv : n < vs.length := by omega
  refine ⟨vs[n], List.getElem?_eq_getElem iv, ?_⟩
  rw [← List.append_nil ts] at R
  refine Rst.change (us' := [(vs[n], x, o.child (.inl 0))]) (H' := upd H a (.lst (vs.eraseIdx n))) (d' := .lst (ds.eraseIdx n)) R hs at_ va ho fun F fp hf r rt hlt hfp hdj hF1 hF2 => ?_
  obtain ⟨a', vs', fs, e1, e2, l, ch, fam⟩ := Rp.lst ho r
  rw [hv] at e1; cases e1
  rw [ha] at e2; cases e2
  have ina : fp a := (fam.iff a).mpr (.inl rfl)
  have hup : ∀ c u, c ≠ a → H c = some u → upd H a (.lst (vs.eraseIdx n)) c = some u := fun c u hc e => by rw [upd_ne hc]; exact e
  have inf : ∀ {i y}, fs i y → fp y := fun {i y} h => (fam.iff y).mpr (.inr ⟨i, h⟩)
  let gs : Nat → SetA := fun i => if i < n then fs i else fs (i + 1)
  have gi : ∀ i, ∃ j, j ≠ n ∧ gs i = fs j ∧ (i < ds.length - 1 → j < ds.length) ∧ (j < ds.length → i < ds.length - 1) := fun i => by
    by_cases hi : i < n
    · exact ⟨i, by omega, if_pos hi, by omega, by omega⟩
    · exact ⟨i + 1, by omega, if_neg hi, by omega, by omega⟩
  have mono : ∀ {i : Nat} {d1 : D} {v1 : V} {c : Ow}, Rp cl F H c d1 v1 (fs i) → Rp cl F (upd H a (.lst (vs.eraseIdx n))) c d1 v1 (fs i) := fun {i d1 v1 c} q =>
    Rp.mono cl (fun _ h => h) (fun c u hc q => Rx.same (fun u e => hup c u (by rintro rfl; exact hF1 c ina hc) e) q) _ (fun c u hc e => hup c u (fam.lt i c hc).2 e) q
  refine ⟨⟨F, fun y => y = a ∨ ∃ i, gs i y, fun k y => k = 0 ∧ fs n y, fun _ h => h, fun _ h => .inl h, fun c u e h1 _ => hup c u (fun z => h1 (z ▸ ina)) e, fun c u e => by
      by_cases hca : c = a
      · subst hca; exact ⟨_, upd_same⟩
      · exact ⟨u, hup c u hca e⟩, ?_, fun k v1 d1 o1 e => ?_, fun k y z => by rw [z.1]; simp, fun y h => ?_, fun k y z => ⟨.inl (inf z.2), hF1 y (inf z.2)⟩, fun k y z q => ?_, fun k j y z z' => by rw [z.1, z'.1]⟩⟩
  · refine (Rp.nd_iff cl ho).mpr ⟨a, vs.eraseIdx n, gs, hv, upd_same, by rw [List.length_eraseIdx, List.length_eraseIdx, l], fun i d1 v1 h1 h2 => ?_, ⟨fun i y hy => ?_, fun i j y h1 h2 => ?_, fun y => Iff.rfl⟩⟩
    · rw [List.getElem?_eraseIdx] at h1 h2
      show Rp cl F _ (o.child (.inl 0)) d1 v1 (if _ then _ else _)
      by_cases hi : i < n
      · rw [if_pos hi] at h1 h2 ⊢; exact mono (ch i d1 v1 h1 h2)
      · rw [if_neg hi] at h1 h2 ⊢; exact mono (ch (i + 1) d1 v1 h1 h2)
    · obtain ⟨j, _, e, _, e3⟩ := gi i
      rw [e] at hy
      have := fam.lt j y hy
      refine ⟨?_, this.2⟩
      rw [List.length_eraseIdx, if_pos il]
      exact e3 this.1
    · have h1' : (if i < n then fs i else fs (i + 1)) y := h1
      have h2' : (if j < n then fs j else fs (j + 1)) y := h2
      by_cases hi : i < n <;> by_cases hj : j < n
      · rw [if_pos hi] at h1'; rw [if_pos hj] at h2'; exact fam.dj i j y h1' h2'
      · rw [if_pos hi] at h1'; rw [if_neg hj] at h2'; have := fam.dj _ _ y h1' h2'; omega
      · rw [if_neg hi] at h1'; rw [if_pos hj] at h2'; have := fam.dj _ _ y h1' h2'; omega
      · rw [if_neg hi] at h1'; rw [if_neg hj] at h2'; have := fam.dj _ _ y h1' h2'; omega
  · cases k with
    | zero =>
      cases e
      have e3 : (fun y => (0 : Nat) = 0 ∧ fs n y) = fs n := funext fun y => propext ⟨fun h => h.2, fun h => ⟨rfl, h⟩⟩
      show Rp cl F _ (o.child (.inl 0)) x _ (fun y => (0 : Nat) = 0 ∧ fs n y)
      rw [e3]
      exact mono (ch n x _ hn (List.getElem?_eq_getElem iv))
    | succ k => simp at e
  · rcases h with rfl | ⟨i, h⟩
    · exact ⟨.inl ina, hF1 _ ina⟩
    · obtain ⟨j, _, e, _⟩ := gi i
      rw [e] at h
      exact ⟨.inl (inf h), hF1 _ (inf h)⟩
  · rcases q with rfl | ⟨i, h⟩
    · exact (fam.lt n y z.2).2 rfl
    · obtain ⟨j, hj, e, _⟩ := gi i
      rw [e] at h
      exact hj (fam.dj j n y h z.2)

theorem any_keys {κ α β : Type} [DecidableEq κ] {kvs : List (κ × α)} {ws : List (κ × β)} (l : kvs.map (·.1) = ws.map (·.1)) (k : κ) : (kvs.any fun kv => decide (kv.1 = k)) = ws.any fun kv => decide (kv.1 = k) := by
  have h : ∀ {γ : Type} (xs : List (κ × γ)), (xs.any fun kv => decide (kv.1 = k)) = (xs.map (·.1)).any fun q => decide (q = k) := fun xs => by rw [List.any_map]; rfl
  rw [h, h, l]
/-- pl[key] = x, a dict -/
theorem Rst.setD {s : Nat} {d0 x : D} {o0 o ox : Ow} {p : List PKey} {v w : V} {kvs : List (Key × D)} {a : Addr} {ws : List (Key × V)} {key : Key} (R : Rst cl b σ H ρ (ts ++ [(w, x, ox)])) (hs : ρ[s]? = some (some (d0, o0))) (at_ : At d0 o0 p (.dic kvs) o) (va : ∀ v0, σ[s]? = some (some v0) → VAt H v0 d0 p v) (ho : o ≠ .sh)
    (hv : v = .ref a) (ha : H a = some (.dK ws)) (hc : x.flat = true ∨ o.child key = .sh ∨ o.child key = ox) : Rst cl b σ (upd H a (.dK (putK ws key w))) (ρ.set s (some (d0.updAt p (.dic (dput kvs key x)), o0))) ts := by
  have key' := Rst.change (us' := []) (H' := upd H a (.dK (putK ws key w))) (d' := .dic (dput kvs key x)) R hs at_ va ho fun F fp hf r rt hlt hfp hdj hF1 hF2 => by
    obtain ⟨a', vs', fs, e1, e2, ⟨nd, l⟩, ch, fam⟩ := Rp.dic ho r
    rw [hv] at e1; cases e1
    rw [ha] at e2; cases e2
    have ina : fp a := (fam.iff a).mpr (.inl rfl)
    have hup : ∀ c u, c ≠ a → H c = some u → upd H a (.dK (putK ws key w)) c = some u := fun c u hc e => by rw [upd_ne hc]; exact e
    obtain ⟨F', f0, C⟩ := child_of (cl := cl) (H' := upd H a (.dK (putK ws key w))) (c := o.child key) (rt 0 w x ox rfl) (hF2 0) (fun c u hc e => hup c u (by
      rintro rfl
      rcases hc with q | q
      · exact hF1 c ina q
      · exact hfp 0 c q ina) e) hc
    have inf : ∀ {i y}, fs i y → fp y := fun {i y} h => (fam.iff y).mpr (.inr ⟨i, h⟩)
    have old : ∀ {y}, fp y → ¬ F' y := fun {y} q z => by
      rcases C.hFn y z with z | z
      · exact hF1 y q z
      · exact hfp 0 y z q
    have lw : ws.length = kvs.length := len_keys l
    have ndw : (ws.map (·.1)).Nodup := l ▸ nd
    -- the place of the key
    obtain ⟨n, hn1, hn2, hn3, hn4, hn5⟩ : ∃ n, n ≤ kvs.length ∧ (∀ i k1 d1, (dput kvs key x)[i]? = some (k1, d1) → (i = n ∧ k1 = key ∧ d1 = x) ∨ (i ≠ n ∧ kvs[i]? = some (k1, d1))) ∧
        (∀ i k1 v1, (putK ws key w)[i]? = some (k1, v1) → (i = n ∧ k1 = key ∧ v1 = w) ∨ (i ≠ n ∧ ws[i]? = some (k1, v1))) ∧ ((dput kvs key x).map (·.1)).Nodup ∧ (dput kvs key x).map (·.1) = (putK ws key w).map (·.1) ∧ n < (dput kvs key x).length ∧ kvs.length ≤ (dput kvs key x).length := by
      cases hm : kvs.any fun kv => decide (kv.1 = key) with
      | true =>
        obtain ⟨⟨k0, d0⟩, m1, m2⟩ := List.any_eq_true.mp hm
        have e0 : k0 = key := of_decide_eq_true m2
        subst e0
        obtain ⟨n, hn, en⟩ := List.mem_iff_getElem.mp m1
        have e1 : kvs[n]? = some (k0, d0) := by rw [List.getElem?_eq_getElem hn, en]
        obtain ⟨k', d', v', e1', e2'⟩ := keyAt l hn
        rw [e1] at e1'; cases e1'
        have f1 : dput kvs k0 x = kvs.set n (k0, x) := dput_set nd e1
        have f2 : putK ws k0 w = ws.set n (k0, w) := dput_set ndw e2'
        have km : (kvs.set n (k0, x)).map (·.1) = kvs.map (·.1) := by
          rw [List.map_set]
          apply List.ext_getElem?
          intro j
          by_cases hj : n = j
          · subst hj; rw [List.getElem?_set_self (by simpa using hn), List.getElem?_map, e1]; rfl
          · rw [List.getElem?_set_ne hj]
        have kw : (ws.set n (k0, w)).map (·.1) = ws.map (·.1) := by
          rw [List.map_set]
          apply List.ext_getElem?
          intro j
          by_cases hj : n = j
          · subst hj; rw [List.getElem?_set_self (by simp; omega), List.getElem?_map, e2']; rfl
          · rw [List.getElem?_set_ne hj]
        refine ⟨n, Nat.le_of_lt hn, fun i k1 d1 e => ?_, fun i k1 v1 e => ?_, by rw [f1, km]; exact nd, by rw [f1, f2, km, kw]; exact l, by rw [f1]; simpa using hn, by rw [f1]; simp⟩
        · rw [f1] at e
          by_cases hi : i = n
          · subst hi; rw [List.getElem?_set_self hn] at e; cases e; exact .inl ⟨rfl, rfl, rfl⟩
          · rw [List.getElem?_set_ne (Ne.symm hi)] at e; exact .inr ⟨hi, e⟩
        · rw [f2] at e
          by_cases hi : i = n
          · subst hi; rw [List.getElem?_set_self (by omega)] at e; cases e; exact .inl ⟨rfl, rfl, rfl⟩
          · rw [List.getElem?_set_ne (Ne.symm hi)] at e; exact .inr ⟨hi, e⟩
      | false =>
        have f1 : dput kvs key x = kvs ++ [(key, x)] := by unfold dput; rw [hm]; rfl
        have f2 : putK ws key w = ws ++ [(key, w)] := by unfold putK; rw [← any_keys l key, hm]; rfl
        have hk : key ∉ kvs.map (·.1) := fun q => by
          obtain ⟨p, m1, m2⟩ := List.mem_map.mp q
          have := List.any_eq_false.mp hm p m1
          exact this (by simp [m2])
        refine ⟨kvs.length, Nat.le_refl _, fun i k1 d1 e => ?_, fun i k1 v1 e => ?_, ?_, by rw [f1, f2, List.map_append, List.map_append, l]; rfl, by rw [f1]; simp, by rw [f1]; simp⟩
        · rw [f1] at e
          by_cases hi : i < kvs.length
          · rw [List.getElem?_append_left hi] at e; exact .inr ⟨by omega, e⟩
          · rw [List.getElem?_append_right (by omega)] at e
            have hi' : i = kvs.length := by have := (List.getElem?_eq_some_iff.mp e).1; simp at this; omega
            subst hi'
            rw [Nat.sub_self] at e; cases e; exact .inl ⟨rfl, rfl, rfl⟩
        · rw [f2] at e
          by_cases hi : i < ws.length
          · rw [List.getElem?_append_left hi] at e; exact .inr ⟨by omega, e⟩
          · rw [List.getElem?_append_right (by omega)] at e
            have hi' : i = kvs.length := by have := (List.getElem?_eq_some_iff.mp e).1; simp at this; omega
            subst hi'
            rw [lw, Nat.sub_self] at e; cases e; exact .inl ⟨rfl, rfl, rfl⟩
        · rw [f1, List.map_append]
          exact List.nodup_append.mpr ⟨nd, by simp, fun a ha b hb => by simp at hb; subst hb; rintro rfl; exact hk ha⟩
    refine ⟨⟨F', fun y => y = a ∨ ∃ i, (if i = n then f0 else fs i) y, fun _ _ => False, C.hF, fun y h => by rcases C.hFn y h with q | q; exact .inl q; exact .inr ⟨0, q⟩, fun c u e h1 _ => hup c u (fun z => h1 (z ▸ ina)) e, fun c u e => by
      by_cases hca : c = a
      · subst hca; exact ⟨_, upd_same⟩
      · exact ⟨u, hup c u hca e⟩, ?_, fun k v d o e => by simp at e, fun _ _ z => z.elim, fun y h => ?_, fun _ _ z => z.elim, fun _ _ z => z.elim, fun _ _ _ z => z.elim⟩⟩
    · refine (Rp.nd_iff cl ho).mpr ⟨a, putK ws key w, fun i => if i = n then f0 else fs i, hv, upd_same, ⟨hn4, hn5.1⟩, fun i k1 d1 v1 h1 h2 => ?_, ⟨fun i y hy => ?_, fun i j y h1 h2 => ?_, fun y => Iff.rfl⟩⟩
      · show Rp cl F' _ (o.child k1) d1 v1 (if _ then _ else _)
        rcases hn2 i k1 d1 h1 with ⟨e1, e2, e3⟩ | ⟨e1, e2⟩
        · rcases hn3 i k1 v1 h2 with ⟨_, _, e6⟩ | ⟨e4, _⟩
          · rw [if_pos e1, e2, e3, e6]; exact C.rp
          · exact absurd e1 e4
        · rcases hn3 i k1 v1 h2 with ⟨e4, _⟩ | ⟨_, e5⟩
          · exact absurd e4 e1
          · rw [if_neg e1]
            refine Rp.mono cl C.hF (fun c u hc q => Rx.same (fun u e => hup c u (by rintro rfl; exact hF1 c ina hc) e) q) _ (fun c u hc e => hup c u (fam.lt i c hc).2 e) (ch i k1 d1 v1 e2 e5)
      · by_cases hi : i = n
        · subst hi
          rw [if_pos rfl] at hy
          exact ⟨hn5.2.1, by rintro rfl; exact hfp 0 y (C.sub y hy).1 ina⟩
        · rw [if_neg hi] at hy
          have := fam.lt i y hy
          exact ⟨Nat.lt_of_lt_of_le this.1 hn5.2.2, this.2⟩
      · have out : ∀ j y, fs j y → ¬ f0 y := fun j y q q' => hfp 0 y (C.sub y q').1 (inf q)
        by_cases hi : i = n <;> by_cases hj : j = n
        · rw [hi, hj]
        · rw [if_pos hi] at h1; rw [if_neg hj] at h2; exact absurd h1 (out j y h2)
        · rw [if_neg hi] at h1; rw [if_pos hj] at h2; exact absurd h2 (out i y h1)
        · rw [if_neg hi] at h1; rw [if_neg hj] at h2; exact fam.dj i j y h1 h2
    · rcases h with rfl | ⟨i, h⟩
      · exact ⟨.inl ina, old ina⟩
      · by_cases hi : i = n
        · rw [if_pos hi] at h; exact ⟨.inr ⟨0, (C.sub y h).1⟩, (C.sub y h).2⟩
        · rw [if_neg hi] at h; exact ⟨.inl (inf h), old (inf h)⟩
  rw [List.append_nil] at key'
  exact key'
end
end DL
/-! DL9: defs: the promise of a contract, its call. -/
namespace DL
open PySem PySem.Spec PyProof.Rows L2

/-- an exception as it lies: its class, its own dict -/
def ExcAt (cl : Str → Addr) (F : SetA) (H : Hp) (e : Exc) (c : Value) (d : Option Addr) : Prop :=
  c = .ref (cl e.cls) ∧ match e.arg with
    | [] => d = none
    | x :: r => r = [] ∧ ∃ dx f v, d = some dx ∧ F dx ∧ H dx = some (.xd [(f, v)]) ∧ Rs cl F H x v
def argS : List V → List D → List Ow → List (Option Cell)
  | v :: vs, d :: ds, o :: os => some (v, d, o) :: argS vs ds os
  | _, _, _ => []
def handB (H : Hp) (F : SetA) (fs : Sum Nat Nat → SetA) : Bs := ⟨H, F, fun x => ∃ p, fs p x⟩
def spD (cl : Str → Addr) (con : Con) : Sp := fun vs H Q E => ∃ ds F fs, vs.length = con.io.length ∧ ds.length = con.io.length ∧ Wst cl (handB H F fs) H (cells (argS vs ds con.io) []) F fs ∧ con.pre ds ∧
  (∀ r ro outs v H' F' fs', outs.length = ds.length → con.post ds r ro outs → Wst cl (handB H F fs) H' (cells (argS vs outs con.io) [(v, r, ro)]) F' fs' → Q v H') ∧
  ∀ e outs c d H' F' fs', outs.length = ds.length → con.exc ds e outs → Wst cl (handB H F fs) H' (cells (argS vs outs con.io) []) F' fs' → ExcAt cl F' H' e c d → E c d H'

/-- a def keeps its promise, called where no guard stands -/
structure FnG (P : Program) (w : World) (K : PySem.W.Frag) (mg : Str → Option Value) (base : Heap) (k : Nat) (f : Addr) (fd : FuncData) (ps : List Str) (sp : Sp) : Prop where
  len : ∀ vs H Q E, sp vs H Q E → vs.length = ps.length
  run : ∀ (A : Around) (outer : List Env) (s : Shared) (H : Hp) (args : Args) (us : List Value) (vs : List V) (Q : VK) (E : XK), Room k A → A.guards = some [] → Env0 P w K mg base A outer s H → BindsTo s fd args (ps.zip us) → Vals vs us →
    sp vs H Q E → codeAny (model P w) A (.call (.ref f) args) (CR (L2.CX P w) outer P w H s Q E) s
theorem FnG.mono {P : Program} {w : World} {K : PySem.W.Frag} {mg : Str → Option Value} {base : Heap} {j k : Nat} {f : Addr} {fd : FuncData} {ps : List Str} {sp : Sp} (F : FnG P w K mg base j f fd ps sp) (h : j ≤ k) : FnG P w K mg base k f fd ps sp :=
  ⟨F.len, fun A outer s H args us vs Q E hr => F.run A outer s H args us vs Q E (hr.mono h)⟩
theorem guards_in {A : Around} {env : Env} (h : A.guards = some []) : (A.deeper env).guards = some [] := by
  obtain ⟨h1, h2, h3, h4, h5⟩ := A
  cases h
  rfl
/-- THE RULE for a def: its body, walked -/
theorem fn_g {P : Program} {w : World} {K : PySem.W.Frag} {mg : Str → Option Value} {base : Heap} {k : Nat} {f : Addr} {x qual : Str} {params : Arguments} {body : List Stmt} {scope : Scope} {dvs : List V} {kws : List (Str × V)} {fd : FuncData} {N ps : List Str} {sp : Sp}
    (F : FunD K x qual params body scope dvs kws f fd) (S : FnScope N ps scope) (len : ∀ vs H Q E, sp vs H Q E → vs.length = ps.length)
    (hbody : ∀ (cdv : Value) (A : Around) (outer : List Env) (s : Shared) (H : Hp) (vs : List V) (Q : VK) (E : XK), Room k (A.deeper (envOfC qual scope s.heap.objs.size f cdv)) → (A.deeper (envOfC qual scope s.heap.objs.size f cdv)).guards = some [] → sp vs H Q E →
      ∃ t, PSs (cxOf (L2.CX P w) P w K mg base N qual scope f cdv A outer s H E) body t ∧ t { nx := fun _ H' => Q .non H', rt := Q } (start N vs) H) : FnG P w K mg base (k + 1) f fd ps sp := by
  obtain ⟨oc, od, dV, kV, doc, pm, an, cdv, ct, osl, rfl, lk, hcd, _, _⟩ := F.ex
  constructor
  · exact len
  intro A outer s H args us vs Q E hr hg e0 hb r hsp
  have KX : K.In s.heap := e0.mod.kin.keeps fun c o e => (e0.bs c o e).1
  have lim : s.heap.NoLimit := e0.mod.nolimit.keeps fun c o e => (e0.bs c o e).1
  have kinds : ∀ y ∈ ps.zip us, scope.names.lookup y.1 = some .local ∨ (scope.names.lookup y.1 = some .cell ∧ ((cellsFrom (s.heap.objs.size + 1) scope.names []).lookup y.1).isSome = true) := by
    intro y hy
    rcases S.par y.1 (List.of_mem_zip (a := y.1) (b := y.2) hy).1 with q | q
    · exact Or.inl q
    · exact Or.inr ⟨q, PySem.W.cellsFrom_some _ _ _ (.inl q)⟩
  refine codeAny_call_function hr.depth (KX _ _ lk) rfl S.co S.gen rfl (PySem.W.codeRec_of KX hcd) (hb _ _ _ _ ?_)
  refine wpAny_newFunctionEnv_cells S.kind kinds fun env he s1 hx => ?_
  subst he
  refine ⟨lim.keeps hx.toInCall.keep, codeAny_func ?_⟩
  obtain ⟨t, ht, hq⟩ := hbody cdv A outer s H vs Q E (hr.deeper _) (guards_in hg) hsp
  have I := inv_start (CX := L2.CX P w) (P := P) (w := w) (K := K) (mg := mg) (base := base) (N := N) (qual := qual) (f := f) (cd := cdv) (outer := outer) (E := E) S hr.hd e0 (len _ _ _ _ hsp) r hx
  refine wpAny_mono (ht.run [] s1 (start N vs) H _ I hq) (fun fl s' hs => ?_) fun e s' hs => hs
  cases fl with
  | ret u =>
    obtain ⟨v, σ', H', J, rv, q⟩ := hs
    exact ⟨v, H', J.os, J.bare, J.base, J.hok, rv, q⟩
  | next =>
    obtain ⟨σ', H', J, q⟩ := hs
    exact ⟨.non, H', J.os, J.bare, J.base, J.hok, rfl, q⟩
  | brk =>
    obtain ⟨_, _, _, q⟩ := hs
    exact q.elim
  | cont =>
    obtain ⟨_, _, _, q⟩ := hs
    exact q.elim

/-- how a call of this shape binds (dvs: the defaults) -/
def BindsP (K : PySem.W.Frag) (fd : FuncData) (ps : List Str) (ds : List Value) (sh : Shp) : Prop :=
  ∀ (s : Shared) (us ws zs : List Value), K.In s.heap → us.length = sh.n → ws.length = sh.ks.length → pickA sh.plan (us ++ ws ++ ds) = some zs → BindsTo s fd ⟨us, sh.ks.zip ws⟩ (ps.zip zs)
section
variable {X : Cx} {σ : L2.St} {H : Hp} {s : Shared} {pins : List (Addr × Obj)}
theorem pick_vals : ∀ {plan : List Nat} {vs : List V} {us : List Value} {qs : List V}, Vals vs us → pickA plan vs = some qs → ∃ zs, pickA plan us = some zs ∧ Vals qs zs
  | [], vs, us, qs, r, e => by
    cases e
    exact ⟨[], rfl, .nil⟩
  | j :: plan, vs, us, qs, r, e => by
    unfold pickA at e ⊢
    rw [List.mapM_cons] at e ⊢
    cases q : vs[j]? with
    | none => rw [q] at e; cases e
    | some v =>
      rw [q] at e
      obtain ⟨u, h1, h2⟩ := r.get q
      cases q2 : plan.mapM (fun j => vs[j]?) with
      | none => rw [q2] at e; cases e
      | some qs' =>
        rw [q2] at e
        cases e
        obtain ⟨zs, h3, h4⟩ := pick_vals (plan := plan) r q2
        refine ⟨u :: zs, ?_, .cons h2 h4⟩
        rw [h1]
        have h3' : plan.mapM (fun j => us[j]?) = some zs := h3
        rw [h3']; rfl
theorem run_g {k : Nat} {f : Addr} {fd : FuncData} {ps : List Str} {sp : Sp} {Q : VK} {E : XK} {W : WX} {sh : Shp} {dvs : List V} {ds us ws : List Value} {vs ks qs : List V} (F : FnG X.prog X.w X.K X.mg X.base k f fd ps sp) (hr : Room k X.A) (hg : X.A.guards = some []) (hb : BindsP X.K fd ps ds sh) (hd : Vals dvs ds)
    (tk : Takes X W) (I : Inv X pins σ H s) (r : Vals vs us) (rk : Vals ks ws) (l1 : vs.length = sh.n) (l2 : ks.length = sh.ks.length) (hp : pickA sh.plan (vs ++ ks ++ dvs) = some qs) (h : sp qs H Q E) (hx : ∀ c d H', E c d H' → W c d σ H') :
    wpAny (model X.prog X.w) X.A (call (.ref f) us (sh.ks.zip ws)) (EP X pins σ Q) X.xe s := by
  obtain ⟨zs, e1, r2⟩ := pick_vals ((r.append rk).append hd) hp
  refine wpAny_call (codeAny_mono (F.run X.A X.stack s H ⟨us, sh.ks.zip ws⟩ zs qs Q E hr hg I.env0 (hb s us ws zs I.kIn (r.length.symm.trans l1) (rk.length.symm.trans l2) e1) r2 h) fun res s' hq => ?_)
  cases res with
  | error e => exact tk e s' (XE.of_call I (fun c d H' q => hx c d H' q) hq)
  | ok fl =>
    cases fl with
    | ret u => exact I.after hq
    | next => exact False.elim hq
    | brk => exact False.elim hq
    | cont => exact False.elim hq
/-- f(e, .., k = v, ..) -/
def tCallG (sp : Sp) (sh : Shp) (dvs : List V) (W : WX) (t tk : TA) : TE := fun σ H Q => t σ H fun vs H1 => tk σ H1 fun ks H2 => ∃ qs E, vs.length = sh.n ∧ ks.length = sh.ks.length ∧ pickA sh.plan (vs ++ ks ++ dvs) = some qs ∧ sp qs H2 Q E ∧ ∀ c d H', E c d H' → W c d σ H'
/-- f(k = v, ..) -/
def tCallG0 (sp : Sp) (sh : Shp) (dvs : List V) (W : WX) (tk : TA) : TE := fun σ H Q => tk σ H fun ks H2 => ∃ qs E, 0 = sh.n ∧ ks.length = sh.ks.length ∧ pickA sh.plan (ks ++ dvs) = some qs ∧ sp qs H2 Q E ∧ ∀ c d H', E c d H' → W c d σ H'
theorem kw_none {kws : List Keyword} {env : Env} {pos : Pos} {ks : List Str} (h : kws.map (·.arg) = ks.map some) : (backToKw pos (keywordEach kws env)).all (·.1.isSome) = true ∧ (backToKw pos (keywordEach kws env)).any (·.1.isNone) = false ∧ (backToKw pos (keywordEach kws env)).filterMap (·.1) = ks := by
  induction kws generalizing ks with
  | nil =>
    cases ks with
    | nil => exact ⟨rfl, rfl, rfl⟩
    | cons _ _ => cases h
  | cons kw kws ih =>
    cases ks with
    | nil => cases h
    | cons k ks =>
      obtain ⟨a, v, p⟩ := kw
      simp only [List.map_cons, List.cons.injEq] at h
      obtain ⟨rfl, h⟩ := h
      obtain ⟨i1, i2, i3⟩ := ih h
      refine ⟨?_, ?_, ?_⟩
      · show (true && (backToKw pos (keywordEach kws env)).all (·.1.isSome)) = true
        rw [i1]; rfl
      · show (false || (backToKw pos (keywordEach kws env)).any (·.1.isNone)) = false
        rw [i2]; rfl
      · show k :: (backToKw pos (keywordEach kws env)).filterMap (·.1) = _
        rw [i3]
section
variable {k : Nat} {f : Addr} {fd : FuncData} {ps : List Str} {sp : Sp} {W : WX} {sh : Shp} {dvs : List V} {ds : List Value} {x : Str} {p pos : Pos} {e : Expr} {es : List Expr} {kws : List Keyword} {t tk' : TA}
theorem pe_callG (F : FnG X.prog X.w X.K X.mg X.base k f fd ps sp) (hr : Room k X.A) (hgd : X.A.guards = some [])
    (hg : Gl X x) (hm : X.mg x = some (.ref f)) (hk : PySem.W.keepIn X.K (.ref f) = true) (hb : BindsP X.K fd ps ds sh) (hd : Vals dvs ds) (tk : Takes X W) (ha : PA X (e :: es) t) (hkw : PK X kws tk') (hdb : (x == ("__debug__" : Str)) = false) (hn : kws.map (·.arg) = sh.ks.map some) (hp : ∀ e' ∈ e :: es, plainE e' = true) :
    PE X (.Call (.Name x p) (e :: es) kws pos) (tCallG sp sh dvs W t tk') := by
  obtain ⟨k1, k2, k3⟩ := kw_none (env := X.env) (pos := pos) hn
  refine ⟨fun pins s σ H Q I h => ?_⟩
  refine wpAny_Call_Name_kw (ld_glob I hg hm ?_ hdb)
  have s1 := star_of (es := es) (env := X.env) (hp e List.mem_cons_self)
  refine PySem.W.callWith_KW (h₀ := X.base) I.ok.mod.kin hk k1 (thn (ha.run pos pins s σ H _ I h) fun us s1 ⟨vs, H1, I1, r1, q1⟩ => ?_) (by rw [nostar hp, k2]; rfl) s1
  refine thn (hkw.run pos pins s1 σ H1 _ I1 q1) fun ws s2 ⟨ks, H2, I2, r2, qs, E, l1, l2, hpk, hsp, hx⟩ => ⟨I2.kIn, ?_⟩
  rw [k3]
  exact run_g F hr hgd hb hd tk I2 r1 r2 l1 l2 hpk hsp hx
theorem pe_callG0 (F : FnG X.prog X.w X.K X.mg X.base k f fd ps sp) (hr : Room k X.A) (hgd : X.A.guards = some [])
    (hg : Gl X x) (hm : X.mg x = some (.ref f)) (hk : PySem.W.keepIn X.K (.ref f) = true) (hb : BindsP X.K fd ps ds sh) (hd : Vals dvs ds) (tk : Takes X W) (hkw : PK X kws tk') (hdb : (x == ("__debug__" : Str)) = false) (hn : kws.map (·.arg) = sh.ks.map some) :
    PE X (.Call (.Name x p) [] kws pos) (tCallG0 sp sh dvs W tk') := by
  obtain ⟨k1, k2, k3⟩ := kw_none (env := X.env) (pos := pos) hn
  refine ⟨fun pins s σ H Q I h => ?_⟩
  refine wpAny_Call_Name_kw (ld_glob I hg hm ?_ hdb)
  refine PySem.W.callWith_KW0 (h₀ := X.base) I.ok.mod.kin hk k1 (thn (hkw.run pos pins s σ H _ I h) fun ws s2 ⟨ks, H2, I2, r2, qs, E, l1, l2, hpk, hsp, hx⟩ => ⟨I2.kIn, ?_⟩) (by rw [k2]; rfl)
  rw [k3]
  exact run_g (us := []) (vs := []) F hr hgd hb hd tk I2 .nil r2 l1 l2 hpk hsp hx
end
end
end DL
/-! DL10: what calls and changes is sound: the frame of the proof, names, constants, targets. -/
namespace DL
open PySem PySem.Spec PyProof.Rows L2

def cellsOf : List V → List Arg → List Cell
  | v :: vs, .dat d o :: xs => (v, d, o) :: cellsOf vs xs
  | _ :: vs, .slot _ :: xs => cellsOf vs xs
  | _, _ => []
def Fit (σ : L2.St) : List V → List Arg → Prop
  | [], [] => True
  | _ :: vs, .dat _ _ :: xs => Fit σ vs xs
  | v :: vs, .slot i :: xs => σ[i]? = some (some v) ∧ Fit σ vs xs
  | _, _ => False
def Xk (cl : Str → Addr) (b : Bs) (σ : L2.St) (W : WX) (xc : XC) : Prop :=
  ∀ e ρ', xc e ρ' → ∀ S F fs H' c d, Slots σ ρ' S → Wst cl b H' (cells S []) F fs → ExcAt cl F H' e c d → W c d σ H'
structure Gd (T : Tab) (cl : Str → Addr) (W : WX) (X : Cx) (N : List Str) (sc : Scope) (lv : Nat) : Prop extends Gq T X N sc where
  tk : Takes X W
  own : PassesOwn (model X.prog X.w) X.A X.env X.xe
  lev : Room lv X.A
  fn : ∀ f con, T.fn f = some con → ∃ a fd ps ds, X.mg f = some (.ref a) ∧ PySem.W.keepIn X.K (.ref a) = true ∧ Vals (con.dfl.map D.toV) ds ∧ con.dfl.all D.flat = true ∧ (∀ sh ∈ con.shp, BindsP X.K fd ps ds sh) ∧ FnG X.prog X.w X.K X.mg X.base lv a fd ps (spD cl con)
def tE (cl : Str → Addr) (T : Tab) (b : Bs) (W : WX) (m : M) : TE := fun σ H Q => ∃ ρ ts k xc, Rst cl b σ H ρ ts ∧ wE T m ρ k xc ∧ Xk cl b σ W xc ∧ ∀ xs ρ', k xs ρ' → ∀ v H', Fit σ [v] xs → Rst cl b σ H' ρ' (ts ++ cellsOf [v] xs) → Q v H'
def tEA (cl : Str → Addr) (T : Tab) (b : Bs) (W : WX) (m : M) : TA := fun σ H Q => ∃ ρ ts k xc, Rst cl b σ H ρ ts ∧ wE T m ρ k xc ∧ Xk cl b σ W xc ∧ ∀ xs ρ', k xs ρ' → ∀ vs H', Fit σ vs xs → Rst cl b σ H' ρ' (ts ++ cellsOf vs xs) → Q vs H'
def tET (cl : Str → Addr) (T : Tab) (b : Bs) (W : WX) (m : M) : TT := fun σ H Q => ∃ ρ ts k xc, Rst cl b σ H ρ ts ∧ wE T m ρ k xc ∧ Xk cl b σ W xc ∧ ∀ xs ρ', k xs ρ' → ∃ d o, xs = [.dat d o] ∧ truthW d fun t => ∀ H', Rst cl b σ H' ρ' ts → Q t H'
section
variable {T : Tab} {cl : Str → Addr} {N : List Str} {lv : Nat}
structure SnE (T : Tab) (cl : Str → Addr) (N : List Str) (lv : Nat) (m : M) : Prop where
  e : ∀ {sc X W}, Gd T cl W X N sc lv → ∀ b e, mE N m sc e = true → PE X e (tE cl T b W m)
  t : ∀ {sc X W}, Gd T cl W X N sc lv → ∀ b e, m.tst = true → mE N m sc e = true → PT X e (tET cl T b W m)
  a : ∀ {sc X W}, Gd T cl W X N sc lv → ∀ b es, mA N m sc es = true → PA X es (tEA cl T b W m)
variable {b : Bs} {σ : L2.St} {H H' : Hp} {ρ : DEnv} {ts us : List Cell} {W : WX} {X : Cx} {sc : Scope}
theorem fit1 {v : V} {xs : List Arg} (h : Fit σ [v] xs) : (∃ d o, xs = [.dat d o]) ∨ ∃ i, xs = [.slot i] ∧ σ[i]? = some (some v) := by
  cases xs with
  | nil => exact h.elim
  | cons x r =>
    cases r with
    | cons _ _ => cases x <;> first | exact h.elim | exact h.2.elim
    | nil =>
      cases x with
      | dat d o => exact .inl ⟨d, o, rfl⟩
      | slot i => exact .inr ⟨i, rfl, h.1⟩
/-- a test by its value -/
theorem pt_e {m : M} {e : Expr} (h : PE X e (tE cl T b W m)) (hp : plainTst e = true) : PT X e (tET cl T b W m) :=
  PT.of (pt_truth h (tru_of hp)) fun σ H Q ⟨ρ, ts, k, xc, R, w, x, f⟩ => ⟨ρ, ts, k, xc, R, w, x, fun xs ρ' hk v H' ft R' => by
    obtain ⟨d, o, rfl, t⟩ := f xs ρ' hk
    obtain ⟨tb, tv, q⟩ := truth_v (X := X) (R'.readT (k := ts.length) (by show (ts ++ [(v, d, o)])[ts.length]? = some (v, d, o); simp)) t
    exact ⟨tb, tv, q H' R'.drop⟩⟩
/-- by quiet reading -/
theorem via_e {m : M} {e : Expr} (hq : ∀ ρ k xc, wE T m ρ k xc → wB T m ρ fun rs => match rs with | [r] => r.flat = true ∧ k [.dat r .sh] ρ | _ => False) (h : PE X e (tB cl T m)) : PE X e (tE cl T b W m) :=
  PE.of h fun σ H Q ⟨ρ, ts, k, xc, R, w, x, f⟩ => ⟨ρ, _, R.rdb, hq ρ k xc w, fun d hk v H' s r => by
    have hk : d.flat = true ∧ k [.dat d .sh] ρ := hk
    have e := flat_v r hk.1
    subst e
    exact f _ ρ hk.2 _ H' trivial ((R.ext s).flat hk.1)⟩
theorem via_t {m : M} {e : Expr} (hq : ∀ ρ k xc, wE T m ρ k xc → wB T m ρ fun rs => match rs with | [r] => r.flat = true ∧ k [.dat r .sh] ρ | _ => False) (h : PT X e (tBT cl T m)) : PT X e (tET cl T b W m) :=
  PT.of h fun σ H Q ⟨ρ, ts, k, xc, R, w, x, f⟩ => ⟨ρ, _, R.rdb, hq ρ k xc w, fun d hk => by
    have hk : d.flat = true ∧ k [.dat d .sh] ρ := hk
    obtain ⟨d', o', e, t⟩ := f _ ρ hk.2
    cases e
    exact truth_mono t fun t q H' s => q H' (R.ext s)⟩
/-- a scalar -/
theorem sne_const {m : M} {d : D} (hw : ∀ ρ k xc, wE T m ρ k xc → k [.dat d .sh] ρ) (hd : d.flat = true) (hp : ∀ (X : Cx) sc e, Gq T X N sc → mE N m sc e = true → PE X e (tC d.toV) ∧ plainTst e = true) (hA : ∀ sc es, mA N m sc es = false) : SnE T cl N lv m := by
  have key : ∀ {sc X W}, Gd T cl W X N sc lv → ∀ b e, mE N m sc e = true → PE X e (tE cl T b W m) := fun {sc X W} G b e h =>
    PE.of (hp X sc e G.toGq h).1 fun σ H Q ⟨ρ, ts, k, xc, R, w, x, f⟩ => f _ ρ (hw ρ k xc w) _ H trivial (R.flat hd)
  exact ⟨key, fun {sc X W} G b e _ h => pt_e (key G b e h) (hp X sc e G.toGq h).2, fun {sc X W} G b es h => by rw [hA] at h; cases h⟩
theorem no_eA {m : M} (h : ∀ sc es, mA N m sc es = false) {sc X W} (_ : Gd T cl W X N sc lv) (b : Bs) (es : List Expr) (q : mA N m sc es = true) : PA X es (tEA cl T b W m) := by rw [h] at q; cases q
theorem sne_num {n : Int} : SnE T cl N lv (.num n) := sne_const (d := .int n) (fun _ _ _ w => w) rfl (fun X sc e G h => by
  cases e with
  | Constant c j p =>
    cases c with
    | int i =>
      cases dec_eq (show decide (n = i) = true from h)
      exact ⟨pe_int, rfl⟩
    | _ => cases h
  | _ => cases h) fun _ _ => rfl
theorem sne_txt {s : Str} : SnE T cl N lv (.txt s) := sne_const (d := .str s) (fun _ _ _ w => w) rfl (fun X sc e G h => by
  cases e with
  | Constant c j p =>
    cases c with
    | str i =>
      cases dec_eq (show decide (s = i) = true from h)
      exact ⟨pe_str, rfl⟩
    | _ => cases h
  | _ => cases h) fun _ _ => rfl
theorem sne_boo {b : Bool} : SnE T cl N lv (.boo b) := sne_const (d := .bl b) (fun _ _ _ w => w) rfl (fun X sc e G h => by
  cases e with
  | Constant c j p =>
    cases c with
    | bool i =>
      cases dec_eq (show decide (b = i) = true from h)
      exact ⟨pe_bl, rfl⟩
    | _ => cases h
  | _ => cases h) fun _ _ => rfl
theorem sne_non : SnE T cl N lv .non := sne_const (d := .non) (fun _ _ _ w => w) rfl (fun X sc e G h => by
  cases e with
  | Constant c j p =>
    cases c with
    | none => exact ⟨pe_non, rfl⟩
    | _ => cases h
  | _ => cases h) fun _ _ => rfl
theorem name_inv {i : Nat} {e : Expr} (h : mE N (.var i) sc e = true) : ∃ x p, e = .Name x p ∧ (decide (N[i]? = some x) && visB sc x && okN x) = true := by
  cases e with
  | Name x p => exact ⟨x, p, rfl, h⟩
  | _ => cases h
theorem sne_var {i : Nat} : SnE T cl N lv (.var i) := by
  have key : ∀ {sc X W}, Gd T cl W X N sc lv → ∀ b e, mE N (.var i) sc e = true → PE X e (tE cl T b W (.var i)) := fun {sc X W} G b e h => by
    obtain ⟨x, p, rfl, h⟩ := name_inv h
    refine PE.of (okname G.toGq h) fun σ H Q ⟨ρ, ts, k, xc, R, w, x, f⟩ => ?_
    have w' : (match ρ[i]? with | some (some (d, o)) => if o = .sh then k [.dat d .sh] ρ else k [.dat d .sh] (ρ.set i (some (d, .sh))) | _ => False) := w
    split at w'
    · rename_i d o e
      by_cases ho : o = .sh
      · subst ho
        rw [if_pos rfl] at w'
        obtain ⟨v, h1, R'⟩ := R.takeSh e
        exact ⟨v, h1, f _ ρ w' v H trivial R'⟩
      · rw [if_neg ho] at w'
        obtain ⟨v, h1, R'⟩ := R.take e
        exact ⟨v, h1, f _ _ w' v H trivial R'⟩
    · exact w'.elim
  refine ⟨key, fun G b e _ h => pt_e (key G b e h) ?_, no_eA fun _ _ => rfl⟩
  obtain ⟨x, p, rfl, h⟩ := name_inv h
  rfl
/-- a parameter handed over for the call -/
theorem sne_io {i : Nat} : SnE T cl N lv (.io i) := by
  have inv : ∀ {sc e}, mE N (.io i) sc e = true → ∃ x p, e = .Name x p ∧ (decide (N[i]? = some x) && visB sc x && okN x) = true := fun {sc e} h => by
    cases e with
    | Name x p => exact ⟨x, p, rfl, h⟩
    | _ => cases h
  refine ⟨fun {sc X W} G b e h => ?_, fun G b e ht h => ?_, no_eA fun _ _ => rfl⟩
  · obtain ⟨x, p, rfl, h⟩ := inv h
    refine PE.of (okname G.toGq h) fun σ H Q ⟨ρ, ts, k, xc, R, w, x, f⟩ => ?_
    have w' : (match ρ[i]? with | some (some _) => k [.slot i] ρ | _ => False) := w
    split at w'
    · rename_i q e
      obtain ⟨d, o⟩ := q
      obtain ⟨v, h1, _⟩ := R.rdb i d o e
      exact ⟨v, h1, f _ ρ w' v H ⟨h1, trivial⟩ (by rw [show cellsOf [v] [Arg.slot i] = [] from rfl, List.append_nil]; exact R)⟩
    · exact w'.elim
  · obtain ⟨x, p, rfl, h⟩ := inv h
    refine ⟨fun pins s σ H Q I ⟨ρ, ts, k, xc, R, w, x, f⟩ => ?_⟩
    have w' : (match ρ[i]? with | some (some _) => k [.slot i] ρ | _ => False) := w
    split at w'
    · obtain ⟨d, o, e, _⟩ := f _ ρ w'
      cases e
    · exact w'.elim
theorem cellsOf_append {vs : List V} {xs : List Arg} (h : Fit σ vs xs) (ws : List V) (ys : List Arg) : cellsOf (vs ++ ws) (xs ++ ys) = cellsOf vs xs ++ cellsOf ws ys := by
  induction vs generalizing xs with
  | nil =>
    cases xs with
    | nil => rfl
    | cons x xs => cases x <;> exact h.elim
  | cons v vs ih =>
    cases xs with
    | nil => exact h.elim
    | cons x xs =>
      cases x with
      | dat d o => exact congrArg _ (ih h)
      | slot i => exact ih h.2
theorem Fit.append {vs ws : List V} {xs ys : List Arg} (h : Fit σ vs xs) (h' : Fit σ ws ys) : Fit σ (vs ++ ws) (xs ++ ys) := by
  induction vs generalizing xs with
  | nil =>
    cases xs with
    | nil => exact h'
    | cons x xs => cases x <;> exact h.elim
  | cons v vs ih =>
    cases xs with
    | nil => exact h.elim
    | cons x xs =>
      cases x with
      | dat d o => exact ih h
      | slot i => exact ⟨h.1, ih h.2⟩
theorem Fit.length {vs : List V} {xs : List Arg} (h : Fit σ vs xs) : vs.length = xs.length := by
  induction vs generalizing xs with
  | nil =>
    cases xs with
    | nil => rfl
    | cons x xs => cases x <;> exact h.elim
  | cons v vs ih =>
    cases xs with
    | nil => exact h.elim
    | cons x xs =>
      cases x with
      | dat d o => exact congrArg Nat.succ (ih h)
      | slot i => exact congrArg Nat.succ (ih h.2)
theorem sne_nil : SnE T cl N lv .nil := by
  refine ⟨fun _ b e h => by (cases h), fun _ b e _ h => by (cases h), fun {sc X W} G b es h => ?_⟩
  cases es with
  | cons e es => cases h
  | nil => exact PA.of pa_nil fun σ H Q ⟨ρ, ts, k, xc, R, w, x, f⟩ => f [] ρ w [] H trivial (by rw [show cellsOf [] [] = [] from rfl, List.append_nil]; exact R)
theorem sne_cons {a as : M} (ha : SnE T cl N lv a) (has : SnE T cl N lv as) : SnE T cl N lv (.cons a as) := by
  refine ⟨fun _ b e h => by (cases h), fun _ b e _ h => by (cases h), fun {sc X W} G b es h => ?_⟩
  cases es with
  | nil => cases h
  | cons e es =>
    obtain ⟨h1, h2⟩ := ba (show (plainE e && mE N a sc e && mA N as sc es) = true from h)
    obtain ⟨h0, h1⟩ := ba h1
    refine PA.of (pa_cons (ha.e G b e h1) (has.a G b es h2) (star_of h0)) fun σ H Q ⟨ρ, ts, k, xc, R, w, x, f⟩ => ?_
    refine ⟨ρ, ts, _, xc, R, w, x, fun xs ρ1 hk v H1 ft R1 => ?_⟩
    refine ⟨ρ1, ts ++ cellsOf [v] xs, _, xc, R1, hk.2, x, fun ys ρ2 hk2 vs H2 ft2 R2 => ?_⟩
    refine f (xs ++ ys) ρ2 hk2 (v :: vs) H2 (Fit.append (vs := [v]) ft ft2) ?_
    rw [show v :: vs = [v] ++ vs from rfl, cellsOf_append ft, ← List.append_assoc]
    exact R2
/-- all at hand are data -/
theorem datas_cells : ∀ {xs : List Arg} {ds : List D} {vs : List V}, datas xs = some ds → Fit σ vs xs → dOf (cellsOf vs xs) = ds ∧ vOf (cellsOf vs xs) = vs ∧ ds.length = vs.length
  | [], ds, vs, e, f => by
    cases e
    cases vs with
    | nil => exact ⟨rfl, rfl, rfl⟩
    | cons _ _ => exact f.elim
  | .dat d o :: xs, ds, vs, e, f => by
    cases vs with
    | nil => exact f.elim
    | cons v vs =>
      have e : (datas xs).map (d :: ·) = some ds := e
      cases q : datas xs with
      | none => rw [q] at e; cases e
      | some ds' =>
        rw [q] at e
        cases e
        obtain ⟨h1, h2, h3⟩ := datas_cells (vs := vs) q f
        exact ⟨congrArg (d :: ·) h1, congrArg (v :: ·) h2, congrArg Nat.succ h3⟩
  | .slot _ :: _, _, _, e, _ => by cases e
theorem meet_cells : ∀ {xs : List Arg} {ds : List D} {vs : List V}, datas xs = some ds → Fit σ vs xs → ∀ p ∈ cellsOf vs xs, p.2.1.flat = true ∨ p.2.2 ∈ shapes xs
  | [], ds, vs, e, f, p, hp => by cases vs <;> cases hp
  | .dat d o :: xs, ds, vs, e, f, p, hp => by
    cases vs with
    | nil => exact f.elim
    | cons v vs =>
      have e : (datas xs).map (d :: ·) = some ds := e
      cases q : datas xs with
      | none => rw [q] at e; cases e
      | some ds' =>
        rcases List.mem_cons.mp hp with rfl | hp
        · by_cases hd : d.flat = true
          · exact .inl hd
          · exact .inr (by show o ∈ shapes (.dat d o :: xs); unfold shapes; rw [if_neg hd]; exact List.mem_cons_self)
        · rcases meet_cells q f p hp with z | z
          · exact .inl z
          · refine .inr ?_
            show p.2.2 ∈ shapes (.dat d o :: xs)
            unfold shapes
            split
            · exact z
            · exact List.mem_cons_of_mem _ z
  | .slot _ :: _, _, _, e, _, _, _ => by cases e
theorem meet_all {xs : List Arg} (h : meet xs ≠ .sh) : ∀ o ∈ shapes xs, o = meet xs := by
  intro o ho
  unfold meet at h ⊢
  split at h
  · exact absurd rfl h
  · rename_i o' r e
    rw [e] at ho
    split at h
    · rename_i q
      rw [if_pos q]
      rcases List.mem_cons.mp ho with rfl | ho
      · rfl
      · exact of_decide_eq_true (List.all_eq_true.mp q o ho)
    · exact absurd rfl h
theorem shC_vd (us : List Cell) : vOf (us.map shC) = vOf us ∧ dOf (us.map shC) = dOf us := by
  constructor
  · simp [vOf, shC, List.map_map, Function.comp_def]
  · simp [dOf, shC, List.map_map, Function.comp_def]
/-- a new list of what is at hand -/
theorem Rst.display {xs : List Arg} {ds : List D} {vs : List V} (R : Rst cl b σ H ρ (ts ++ cellsOf vs xs)) (e : datas xs = some ds) (f : Fit σ vs xs) {p : Addr} (hp : H p = none) : Rst cl b σ (upd H p (.lst vs)) ρ (ts ++ [(.ref p, .lst ds, .own (meet xs))]) := by
  obtain ⟨h1, h2, _⟩ := datas_cells e f
  by_cases hm : meet xs = .sh
  · have q := (R.freeze).newLst (c := .sh) (fun p hp => by
      obtain ⟨c, _, rfl⟩ := List.mem_map.mp hp
      exact .inr rfl) hp
    rw [(shC_vd _).1, (shC_vd _).2, h1, h2] at q
    rw [hm]; exact q
  · have q := R.newLst (c := meet xs) (fun p hp => by
      rcases meet_cells e f p hp with z | z
      · exact .inl z
      · exact .inr (meet_all hm _ z)) hp
    rw [h1, h2] at q
    exact q
theorem sne_lst {as : M} (ha : SnE T cl N lv as) : SnE T cl N lv (.lst as) := by
  have inv : ∀ {sc e}, mE N (.lst as) sc e = true → ∃ es p, e = .List es p ∧ mA N as sc es = true := fun {sc e} h => by
    cases e with
    | List es p => exact ⟨es, p, rfl, h⟩
    | _ => cases h
  have key : ∀ {sc X W}, Gd T cl W X N sc lv → ∀ b e, mE N (.lst as) sc e = true → PE X e (tE cl T b W (.lst as)) := fun {sc X W} G b e h => by
    obtain ⟨es, p, rfl, h⟩ := inv h
    refine PE.of (pe_lst (ha.a G b es h)) fun σ H Q ⟨ρ, ts, k, xc, R, w, x, f⟩ => ?_
    refine ⟨ρ, ts, _, xc, R, w, x, fun xs ρ1 hk vs H1 ft R1 => ?_⟩
    split at hk
    · rename_i ds e
      refine ⟨by rw [← (datas_cells e ft).2.2]; exact hk.1, fun p hp => f _ ρ1 hk.2 _ _ trivial (R1.display e ft hp)⟩
    · exact hk.elim
  exact ⟨key, fun G b e _ h => pt_e (key G b e h) (by obtain ⟨es, p, rfl, h⟩ := inv h; rfl), no_eA fun _ _ => rfl⟩
theorem sne_tup {as : M} (ha : SnE T cl N lv as) : SnE T cl N lv (.tup as) := by
  have inv : ∀ {sc e}, mE N (.tup as) sc e = true → ∃ es j p, e = .Tuple es j p ∧ mA N as sc es = true := fun {sc e} h => by
    cases e with
    | Tuple es j p => exact ⟨es, j, p, rfl, h⟩
    | _ => cases h
  have key : ∀ {sc X W}, Gd T cl W X N sc lv → ∀ b e, mE N (.tup as) sc e = true → PE X e (tE cl T b W (.tup as)) := fun {sc X W} G b e h => by
    obtain ⟨es, j, p, rfl, h⟩ := inv h
    refine PE.of (pe_tup (ha.a G b es h)) fun σ H Q ⟨ρ, ts, k, xc, R, w, x, f⟩ => ?_
    refine ⟨ρ, ts, _, xc, R, w, x, fun xs ρ1 hk vs H1 ft R1 => ?_⟩
    split at hk
    · rename_i ds e
      refine ⟨by rw [← (datas_cells e ft).2.2]; exact hk.1, fun p hp => f _ ρ1 hk.2 _ _ trivial ?_⟩
      obtain ⟨h1, h2, _⟩ := datas_cells e ft
      have q := (R1.freeze).newTup (fun p hp => by
        obtain ⟨c, _, rfl⟩ := List.mem_map.mp hp
        rfl) hp
      rw [(shC_vd _).1, (shC_vd _).2, h1, h2] at q
      exact q
    · exact hk.elim
  exact ⟨key, fun G b e _ h => pt_e (key G b e h) (by obtain ⟨es, j, p, rfl, h⟩ := inv h; rfl), no_eA fun _ _ => rfl⟩
end
end DL
/-! DL11: operators, tests, subscripts, built-ins, that call or change. -/
namespace DL
open PySem PySem.Spec PyProof.Rows L2
section
variable {T : Tab} {cl : Str → Addr} {N : List Str} {lv : Nat} {b : Bs} {σ : L2.St} {H H' : Hp} {ρ : DEnv} {ts us : List Cell} {W : WX} {X : Cx} {sc : Scope}
theorem twoE {a c : M} {k : List Arg → List Arg → DEnv → Prop} {xc : XC} {Q : V → V → Hp → Prop} (R : Rst cl b σ H ρ ts) (w : wE T a ρ (fun xs ρ1 => wE T c ρ1 (fun ys ρ2 => k xs ys ρ2) xc) xc) (x : Xk cl b σ W xc)
    (h : ∀ xs ys ρ2, k xs ys ρ2 → ∀ v u H', Fit σ [v] xs → Fit σ [u] ys → Rst cl b σ H' ρ2 (ts ++ cellsOf [v] xs ++ cellsOf [u] ys) → Q v u H') : tE cl T b W a σ H fun v H1 => tE cl T b W c σ H1 fun u H2 => Q v u H2 :=
  ⟨ρ, ts, _, xc, R, w, x, fun xs ρ1 hk v H1 ft R1 => ⟨ρ1, _, _, xc, R1, hk, x, fun ys ρ2 hk2 u H2 ft2 R2 => h xs ys ρ2 hk2 v u H2 ft ft2 R2⟩⟩
theorem Rst.read1 {v : V} {d : D} {o : Ow} (R : Rst cl b σ H ρ (ts ++ [(v, d, o)])) : Rs cl all H d v := R.readT (k := ts.length) (o := o) (by simp)
theorem Rst.read2 {v u : V} {d e : D} {o o' : Ow} (R : Rst cl b σ H ρ (ts ++ [(v, d, o)] ++ [(u, e, o')])) : Rs cl all H d v ∧ Rs cl all H e u :=
  ⟨R.readT (k := ts.length) (o := o) (by simp), R.readT (k := ts.length + 1) (o := o') (by simp)⟩
theorem Rst.drop2 {x y : List Cell} (R : Rst cl b σ H ρ (ts ++ x ++ y)) : Rst cl b σ H ρ ts := by
  rw [List.append_assoc] at R
  exact R.drop
theorem sne_bin {o : BOp} {a c : M} (ha : SnE T cl N lv a) (hc : SnE T cl N lv c) : SnE T cl N lv (.bin o a c) := by
  have inv : ∀ {sc e}, mE N (.bin o a c) sc e = true → ∃ e1 f p, e = .BinOp e1 o.py f p ∧ mE N a sc e1 = true ∧ mE N c sc f = true := fun {sc e} h => by
    cases e with
    | BinOp e op f p =>
      obtain ⟨h, h3⟩ := ba (show (decide (op = o.py) && mE N a sc e && mE N c sc f) = true from h)
      obtain ⟨h1, h2⟩ := ba h
      cases dec_eq h1
      exact ⟨e, f, p, rfl, h2, h3⟩
    | _ => cases h
  have key : ∀ {sc X W}, Gd T cl W X N sc lv → ∀ b e, mE N (.bin o a c) sc e = true → PE X e (tE cl T b W (.bin o a c)) := fun {sc X W} G b e h => by
    cases q : a.quiet && c.quiet with
    | true =>
      exact via_e (fun ρ k xc w => by
        have w' : (if (a.quiet && c.quiet) = true then _ else _) := w
        rw [if_pos q] at w'; exact w') ((sndB (.bin o a c) sc X G.toGq q).1 e h)
    | false =>
      obtain ⟨e1, f, p, rfl, h1, h2⟩ := inv h
      refine PE.of (pe_op (op_s o) (ha.e G b e1 h1) (hc.e G b f h2)) fun σ H Q ⟨ρ, ts, k, xc, R, w, x, fin⟩ => ?_
      have w' : (if (a.quiet && c.quiet) = true then _ else _) := w
      rw [if_neg (by rw [q]; decide)] at w'
      refine twoE R w' x fun xs ys ρ2 hk v u H' ft fu R' => ?_
      split at hk
      · obtain ⟨r1, r2⟩ := R'.read2
        obtain ⟨f1, f2⟩ := sOp_flat hk
        exact ⟨_, _, flat_v r1 f1, flat_v r2 f2, sOp_mono hk fun r kr fr => fin _ ρ2 kr _ H' trivial (R'.drop2.flat fr)⟩
      · exact hk.elim
  exact ⟨key, fun G b e _ h => pt_e (key G b e h) (by obtain ⟨_, _, _, rfl, _⟩ := inv h; rfl), no_eA fun _ _ => rfl⟩
theorem sne_neg {a : M} (ha : SnE T cl N lv a) : SnE T cl N lv (.neg a) := by
  refine ⟨fun {sc X W} G b e h => ?_, (fun _ _ _ h _ => by cases h), no_eA fun _ _ => rfl⟩
  cases e with
  | UnaryOp op e p =>
    cases op with
    | USub =>
      refine PE.of (pe_un un_neg (ha.e G b e h)) fun σ H Q ⟨ρ, ts, k, xc, R, w, x, fin⟩ => ?_
      refine ⟨ρ, ts, _, xc, R, w, x, fun xs ρ1 hk v H1 ft R1 => ?_⟩
      split at hk
      · have r := R1.read1
        cases r
        exact ⟨_, rfl, fin _ ρ1 hk _ H1 trivial (R1.drop.flat (d := .int _) rfl)⟩
      · exact hk.elim
    | _ => cases h
  | _ => cases h
theorem sne_cmp {o : COp} {a c : M} (ha : SnE T cl N lv a) (hc : SnE T cl N lv c) : SnE T cl N lv (.cmp o a c) := by
  have inv : ∀ {sc e}, mE N (.cmp o a c) sc e = true → ∃ e1 f p, e = .Compare e1 [o.py] [f] p ∧ mE N a sc e1 = true ∧ mE N c sc f = true ∧ plainE f = true := fun {sc e} h => by
    cases e with
    | Compare e ops fs p =>
      match ops, fs, h with
      | [op], [f], h =>
        obtain ⟨h, h4⟩ := ba (show (decide (op = o.py) && mE N a sc e && mE N c sc f && plainE f) = true from h)
        obtain ⟨h, h3⟩ := ba h
        obtain ⟨h1, h2⟩ := ba h
        cases dec_eq h1
        exact ⟨e, f, p, rfl, h2, h3, h4⟩
      | [], _, h => cases h
      | _ :: _ :: _, _, h => cases h
      | [_], [], h => cases h
      | [_], _ :: _ :: _, h => cases h
    | _ => cases h
  refine ⟨fun {sc X W} G b e h => ?_, fun {sc X W} G b e ht h => ?_, no_eA fun _ _ => rfl⟩
  · cases q : a.quiet && c.quiet with
    | true =>
      exact via_e (fun ρ k xc w => by
        have w' : (if (a.quiet && c.quiet) = true then _ else _) := w
        rw [if_pos q] at w'; exact w') ((sndB (.cmp o a c) sc X G.toGq q).1 e h)
    | false =>
      obtain ⟨e1, f, p, rfl, h1, h2, h3⟩ := inv h
      refine PE.of (pe_cmpR (op_c (cl := cl) G.un o) (ha.e G b e1 h1) (hc.e G b f h2) (mark_of h3)) fun σ H Q ⟨ρ, ts, k, xc, R, w, x, fin⟩ => ?_
      have w' : (if (a.quiet && c.quiet) = true then _ else _) := w
      rw [if_neg (by rw [q]; decide)] at w'
      refine twoE R w' x fun xs ys ρ2 hk v u H' ft fu R' => ?_
      split at hk
      · obtain ⟨r1, r2⟩ := R'.read2
        exact ⟨_, _, r1, r2, cmpW_mono hk fun r kr => fin _ ρ2 kr _ H' trivial (R'.drop2.flat (d := .bl r) rfl)⟩
      · exact hk.elim
  · cases q : a.quiet && c.quiet with
    | true =>
      exact via_t (fun ρ k xc w => by
        have w' : (if (a.quiet && c.quiet) = true then _ else _) := w
        rw [if_pos q] at w'; exact w') ((sndB (.cmp o a c) sc X G.toGq q).2.1 e ht h)
    | false =>
      obtain ⟨e1, f, p, rfl, h1, h2, h3⟩ := inv h
      refine PT.of (pt_cmpR (op_c (cl := cl) G.un o) (ha.e G b e1 h1) (hc.e G b f h2) (mark_of h3)) fun σ H Q ⟨ρ, ts, k, xc, R, w, x, fin⟩ => ?_
      have w' : (if (a.quiet && c.quiet) = true then _ else _) := w
      rw [if_neg (by rw [q]; decide)] at w'
      refine twoE R w' x fun xs ys ρ2 hk v u H' ft fu R' => ?_
      split at hk
      · obtain ⟨r1, r2⟩ := R'.read2
        refine ⟨_, _, r1, r2, cmpW_mono hk fun r kr => ⟨r, rfl, ?_⟩⟩
        obtain ⟨d', o', e', t⟩ := fin _ ρ2 kr
        cases e'
        exact (t : truthW (.bl r) _) H' R'.drop2
      · exact hk.elim
theorem sne_chn {o o' : COp} {a c d : M} : SnE T cl N lv (.chn o o' a c d) := by
  refine ⟨fun {sc X W} G b e h => ?_, fun {sc X W} G b e ht h => ?_, no_eA fun _ _ => rfl⟩
  · cases q : a.quiet && c.quiet && d.quiet with
    | true => exact via_e (fun ρ k xc w => (show _ ∧ _ from w).2) ((sndB (.chn o o' a c d) sc X G.toGq q).1 e h)
    | false => exact ⟨fun pins s σ H Q I ⟨ρ, ts, k, xc, R, w, x, fin⟩ => by have := (show (a.quiet && c.quiet && d.quiet) = true ∧ _ from w).1; rw [q] at this; cases this⟩
  · cases q : a.quiet && c.quiet && d.quiet with
    | true => exact via_t (fun ρ k xc w => (show _ ∧ _ from w).2) ((sndB (.chn o o' a c d) sc X G.toGq q).2.1 e ht h)
    | false => exact ⟨fun pins s σ H Q I ⟨ρ, ts, k, xc, R, w, x, fin⟩ => by have := (show (a.quiet && c.quiet && d.quiet) = true ∧ _ from w).1; rw [q] at this; cases this⟩
theorem sne_not {a : M} (ha : SnE T cl N lv a) : SnE T cl N lv (.not a) := by
  refine ⟨fun {sc X W} G b e h => ?_, fun {sc X W} G b e ht h => ?_, no_eA fun _ _ => rfl⟩
  · cases e with
    | UnaryOp op e p =>
      cases op with
      | Not =>
        refine PE.of (pe_notT (ha.e G b e h)) fun σ H Q ⟨ρ, ts, k, xc, R, w, x, fin⟩ => ?_
        refine ⟨ρ, ts, _, xc, R, w, x, fun xs ρ1 hk v H1 ft R1 => ?_⟩
        split at hk
        · obtain ⟨t, tv, q⟩ := truth_v (X := X) R1.read1 hk
          exact ⟨t, tv, fin _ ρ1 q _ H1 trivial (R1.drop.flat (d := .bl !t) rfl)⟩
        · exact hk.elim
      | _ => cases h
    | _ => cases h
  · cases e with
    | UnaryOp op e p =>
      cases op with
      | Not =>
        refine PT.of (pt_not (ha.t G b e ht h)) fun σ H Q ⟨ρ, ts, k, xc, R, w, x, fin⟩ => ?_
        refine ⟨ρ, ts, _, xc, R, w, x, fun xs ρ1 hk => ?_⟩
        split at hk
        · refine ⟨_, _, rfl, truth_mono hk fun t kt H' R' => ?_⟩
          obtain ⟨d', o', e', t'⟩ := fin _ ρ1 kt
          cases e'
          exact (t' : truthW (.bl !t) _) H' R'
        · exact hk.elim
      | _ => cases h
    | _ => cases h
theorem sne_and {a c : M} (ha : SnE T cl N lv a) (hc : SnE T cl N lv c) : SnE T cl N lv (.and a c) := by
  have core : ∀ {b : Bs} {W : WX} {σ : L2.St} {H : Hp} {Q : VK}, tE cl T b W (.and a c) σ H Q → tAndV (tE cl T b W a) (tE cl T b W c) σ H Q := fun {b W σ H Q} ⟨ρ, ts, k, xc, R, w, x, fin⟩ => by
    refine ⟨ρ, ts, _, xc, R, w, x, fun xs ρ1 hk v H1 ft R1 => ?_⟩
    split at hk
    · rename_i t o
      have r := R1.read1
      cases r
      refine ⟨t, rfl, ?_⟩
      cases t with
      | true => exact ⟨ρ1, ts, k, xc, R1.drop, hk, x, fin⟩
      | false => exact fin _ ρ1 hk _ H1 trivial (R1.drop.flat (d := .bl false) rfl)
    · exact hk.elim
  have coreT : ∀ {b : Bs} {W : WX} {σ : L2.St} {H : Hp} {Q : Bool → Hp → Prop}, tET cl T b W (.and a c) σ H Q → tAnd (tET cl T b W a) (tET cl T b W c) σ H Q := fun {b W σ H Q} ⟨ρ, ts, k, xc, R, w, x, fin⟩ => by
    refine ⟨ρ, ts, _, xc, R, w, x, fun xs ρ1 hk => ?_⟩
    split at hk
    · rename_i t o
      refine ⟨_, _, rfl, ?_⟩
      intro H' R'
      cases t with
      | true => exact ⟨ρ1, ts, k, xc, R', hk, x, fin⟩
      | false =>
        obtain ⟨d', o', e', t'⟩ := fin _ ρ1 hk
        cases e'
        exact (t' : truthW (.bl false) _) H' R'
    · exact hk.elim
  refine ⟨fun {sc X W} G b e h => ?_, fun {sc X W} G b e ht h => ?_, no_eA fun _ _ => rfl⟩
  · obtain ⟨e1, p, h1, ⟨f, rfl, h2⟩ | ⟨f, f', fs, rfl, h2⟩⟩ := and_inv h
    · exact PE.of (pe_and (ha.e G b _ h1) (pe_one (hc.e G b _ h2))) fun _ _ _ q => core q
    · exact PE.of (pe_and (ha.e G b _ h1) (hc.e G b _ h2)) fun _ _ _ q => core q
  · obtain ⟨ta, tb⟩ := ba (show (a.tst && c.tst) = true from ht)
    obtain ⟨e1, p, h1, ⟨f, rfl, h2⟩ | ⟨f, f', fs, rfl, h2⟩⟩ := and_inv h
    · exact PT.of (PW.pt (pw_and (ha.t G b _ ta h1) (pw_and1 (hc.t G b _ tb h2)))) fun _ _ _ q => coreT q
    · exact PT.of (PW.pt (pw_and (ha.t G b _ ta h1) (pw_of (hc.t G b _ tb h2)))) fun _ _ _ q => coreT q
theorem sne_or {a c : M} (ha : SnE T cl N lv a) (hc : SnE T cl N lv c) : SnE T cl N lv (.or a c) := by
  have core : ∀ {b : Bs} {W : WX} {σ : L2.St} {H : Hp} {Q : VK}, tE cl T b W (.or a c) σ H Q → tOrV (tE cl T b W a) (tE cl T b W c) σ H Q := fun {b W σ H Q} ⟨ρ, ts, k, xc, R, w, x, fin⟩ => by
    refine ⟨ρ, ts, _, xc, R, w, x, fun xs ρ1 hk v H1 ft R1 => ?_⟩
    split at hk
    · rename_i t o
      have r := R1.read1
      cases r
      refine ⟨t, rfl, ?_⟩
      cases t with
      | false => exact ⟨ρ1, ts, k, xc, R1.drop, hk, x, fin⟩
      | true => exact fin _ ρ1 hk _ H1 trivial (R1.drop.flat (d := .bl true) rfl)
    · exact hk.elim
  have coreT : ∀ {b : Bs} {W : WX} {σ : L2.St} {H : Hp} {Q : Bool → Hp → Prop}, tET cl T b W (.or a c) σ H Q → tOr (tET cl T b W a) (tET cl T b W c) σ H Q := fun {b W σ H Q} ⟨ρ, ts, k, xc, R, w, x, fin⟩ => by
    refine ⟨ρ, ts, _, xc, R, w, x, fun xs ρ1 hk => ?_⟩
    split at hk
    · rename_i t o
      refine ⟨_, _, rfl, ?_⟩
      intro H' R'
      cases t with
      | false => exact ⟨ρ1, ts, k, xc, R', hk, x, fin⟩
      | true =>
        obtain ⟨d', o', e', t'⟩ := fin _ ρ1 hk
        cases e'
        exact (t' : truthW (.bl true) _) H' R'
    · exact hk.elim
  refine ⟨fun {sc X W} G b e h => ?_, fun {sc X W} G b e ht h => ?_, no_eA fun _ _ => rfl⟩
  · obtain ⟨e1, p, h1, ⟨f, rfl, h2⟩ | ⟨f, f', fs, rfl, h2⟩⟩ := or_inv h
    · exact PE.of (pe_or (ha.e G b _ h1) (pe_one (hc.e G b _ h2))) fun _ _ _ q => core q
    · exact PE.of (pe_or (ha.e G b _ h1) (hc.e G b _ h2)) fun _ _ _ q => core q
  · obtain ⟨ta, tb⟩ := ba (show (a.tst && c.tst) = true from ht)
    obtain ⟨e1, p, h1, ⟨f, rfl, h2⟩ | ⟨f, f', fs, rfl, h2⟩⟩ := or_inv h
    · exact PT.of (PW.pt (pw_or (ha.t G b _ ta h1) (pw_or1 (hc.t G b _ tb h2)))) fun _ _ _ q => coreT q
    · exact PT.of (PW.pt (pw_or (ha.t G b _ ta h1) (pw_of (hc.t G b _ tb h2)))) fun _ _ _ q => coreT q
theorem sne_ite {c a d : M} (hc : SnE T cl N lv c) (ha : SnE T cl N lv a) (hd : SnE T cl N lv d) : SnE T cl N lv (.ite c a d) := by
  refine ⟨fun {sc X W} G b e h => ?_, (fun _ _ _ ht _ => by cases ht), no_eA fun _ _ => rfl⟩
  cases e with
  | IfExp e f g p =>
    obtain ⟨h, h4⟩ := ba (show (c.tst && mE N c sc e && mE N a sc f && mE N d sc g) = true from h)
    obtain ⟨h, h3⟩ := ba h
    obtain ⟨h1, h2⟩ := ba h
    refine PE.of (pe_ifExp (hc.t G b e h1 h2) (ha.e G b f h3) (hd.e G b g h4)) fun σ H Q ⟨ρ, ts, k, xc, R, w, x, fin⟩ => ?_
    refine ⟨ρ, ts, _, xc, R, w, x, fun xs ρ1 hk => ?_⟩
    split at hk
    · refine ⟨_, _, rfl, truth_mono hk fun t kt H' R' => ?_⟩
      cases t with
      | true => exact ⟨ρ1, ts, k, xc, R', kt, x, fin⟩
      | false => exact ⟨ρ1, ts, k, xc, R', kt, x, fin⟩
    · exact hk.elim
  | _ => cases h
end
end DL
/-! DL12: places read; slices, built-ins, isinstance, list(), join, repr. -/
namespace DL
open PySem PySem.Spec PyProof.Rows L2
section
variable {T : Tab} {cl : Str → Addr} {N : List Str} {lv : Nat} {b : Bs} {σ : L2.St} {H H' : Hp} {ρ : DEnv} {ts us : List Cell} {W : WX} {X : Cx} {sc : Scope}
/-- the value that stands at a place of the frame -/
def PlAt (ρ : DEnv) (σ : L2.St) (H : Hp) (s : Nat) (p : List PKey) (d : D) (o : Ow) (v : V) : Prop :=
  ∃ d0 o0 v0, ρ[s]? = some (some (d0, o0)) ∧ σ[s]? = some (some v0) ∧ At d0 o0 p d o ∧ VAt H v0 d0 p v
theorem PlAt.ext {s : Nat} {p : List PKey} {d : D} {o : Ow} {v : V} (h : PlAt ρ σ H s p d o v) (e : Same H H') : PlAt ρ σ H' s p d o v := by
  obtain ⟨d0, o0, v0, h1, h2, h3, h4⟩ := h
  exact ⟨d0, o0, v0, h1, h2, h3, VAt.ext e h4⟩
theorem PlAt.read {s : Nat} {p : List PKey} {d : D} {o : Ow} {v : V} (h : PlAt ρ σ H s p d o v) (R : Rdb cl σ H ρ) : Rs cl all H d v := by
  obtain ⟨d0, o0, v0, h1, h2, h3, h4⟩ := h
  obtain ⟨v1, e, r⟩ := R s d0 o0 h1
  rw [h2] at e; cases e
  exact Rs.at_ r h3 h4
def tP (cl : Str → Addr) (T : Tab) (m : M) : TE := fun σ H Q => ∃ ρ k, Rdb cl σ H ρ ∧ plW T m ρ k ∧ ∀ s p d o, k s p d o → ∀ v H', Same H H' → PlAt ρ σ H' s p d o v → Q v H'
theorem At.nil {d : D} {o : Ow} : At d o [] d o := by cases d <;> exact ⟨rfl, rfl⟩
theorem VAt.nil {d : D} {v : V} : VAt H v d [] v := by cases d <;> rfl
theorem At.lst1 {ds : List D} {n : Nat} {x : D} {o : Ow} (e : ds[n]? = some x) : At (.lst ds) o [.ix n] x (o.child (.inl 0)) := ⟨x, e, At.nil⟩
theorem At.tup1 {ds : List D} {n : Nat} {x : D} {o : Ow} (e : ds[n]? = some x) : At (.tup ds) o [.ix n] x .sh := ⟨x, e, At.nil⟩
theorem At.str1 {z : Str} {n : Nat} {c : Nat} {o : Ow} (e : z.cps.toList[n]? = some c) : At (.str z) o [.ix n] (.str ⟨#[c]⟩) .sh := ⟨c, e, At.nil⟩
theorem At.dic1 {kvs : List (Key × D)} {key : Key} {x : D} {o : Ow} (e : dget kvs key = some x) : At (.dic kvs) o [.ky key] x (o.child key) := ⟨x, e, At.nil⟩
theorem VAt.lst1 {a : Addr} {ds : List D} {vs : List V} {n : Nat} {x : D} {w : V} (rx : Rx H a (.lst vs)) (e : ds[n]? = some x) (e' : vs[n]? = some w) : VAt H (.ref a) (.lst ds) [.ix n] w := ⟨a, vs, x, w, rfl, rx, e, e', VAt.nil⟩
theorem VAt.tup1 {a : Addr} {ds : List D} {vs : List V} {n : Nat} {x : D} {w : V} (rx : Rx H a (.tup vs)) (e : ds[n]? = some x) (e' : vs[n]? = some w) : VAt H (.ref a) (.tup ds) [.ix n] w := ⟨a, vs, x, w, rfl, rx, e, e', VAt.nil⟩
theorem VAt.str1 {v : V} {z : Str} {n : Nat} {c : Nat} (e : z.cps.toList[n]? = some c) : VAt H v (.str z) [.ix n] (.str ⟨#[c]⟩) := ⟨c, e, VAt.nil⟩
theorem VAt.dic1 {a : Addr} {kvs : List (Key × D)} {ws : List (Key × V)} {key : Key} {x : D} {w : V} (rx : Rx H a (.dK ws)) (e : dget kvs key = some x) (e' : valV ws key = some w) : VAt H (.ref a) (.dic kvs) [.ky key] w := ⟨a, ws, x, w, rfl, rx, e, e', VAt.nil⟩
theorem ixN_at {α : Type} {xs : List α} {j : Int} {n : Nat} {x : α} (h : ixN xs.length j = some n) (e : xs[n]? = some x) : atI xs j = some x := by
  unfold atI
  rw [h]
  exact e
def SndP (T : Tab) (cl : Str → Addr) (N : List Str) (m : M) : Prop := ∀ {sc X}, Gq T X N sc → m.isPl = true → m.quiet = true → ∀ e, mE N m sc e = true → PE X e (tP cl T m)
theorem sndP_var {i : Nat} : SndP T cl N (.var i) := fun {sc X} G _ _ e h => by
  obtain ⟨x, p, rfl, h⟩ := name_inv h
  refine PE.of (okname G h) fun σ H Q ⟨ρ, k, R, w, f⟩ => ?_
  have w' : (match ρ[i]? with | some (some (d, o)) => k i [] d o | _ => False) := w
  split at w'
  · rename_i d o e
    obtain ⟨v, h1, _⟩ := R i d o e
    exact ⟨v, h1, f i [] d o w' v H (Same.refl H) ⟨d, o, v, e, h1, At.nil, VAt.nil⟩⟩
  · exact w'.elim
theorem sndP_ixL {a i : M} (ha : SndP T cl N a) : SndP T cl N (.ixL a i) := fun {sc X} G hp hq e h => by
  obtain ⟨qa, qi⟩ := ba (show (a.quiet && i.quiet) = true from hq)
  cases e with
  | Subscript e f p =>
    obtain ⟨h, h3⟩ := ba (show (mE N a sc e && mE N i sc f && plainE f) = true from h)
    obtain ⟨h1, h2⟩ := ba h
    refine PE.of (pe_ix ix_any (ha G (show a.isPl = true from hp) qa e h1) ((sndB (T := T) (cl := cl) i sc X G qi).1 f h2) (ix_of h3)) fun σ H Q ⟨ρ, k, R, w, fin⟩ => ?_
    refine ⟨ρ, _, R, w, fun s q d o hk v H1 s1 pl => ⟨ρ, _, R.ext s1, hk, fun y hk2 u H2 s2 r2 => ?_⟩⟩
    have pl2 := pl.ext s2
    have rd := pl2.read ((R.ext s1).ext s2)
    obtain ⟨d0, o0, v0, g1, g2, g3, g4⟩ := pl2
    split at hk2
    · rename_i ds j e
      cases e
      obtain ⟨n, x, e1, e2, kk⟩ := hk2
      cases r2
      cases rd with
      | @lst _ c vs _ rx l ch =>
        have hn : n < vs.length := by have := (List.getElem?_eq_some_iff.mp e2).1; omega
        have ew := List.getElem?_eq_getElem hn
        refine .inl ⟨c, vs, j, vs[n], rfl, rfl, .inl (.inl rx), ixN_at (by rw [← l]; exact e1) ew, ?_⟩
        exact fin s _ x _ kk _ H2 (s1.trans s2) ⟨d0, o0, v0, g1, g2, At.snoc (At.lst1 e2) g3, VAt.snoc (VAt.lst1 rx e2 ew) g3 g4⟩
    · rename_i ds j e
      cases e
      obtain ⟨n, x, e1, e2, kk⟩ := hk2
      cases r2
      cases rd with
      | @tup _ c vs _ rx l ch =>
        have hn : n < vs.length := by have := (List.getElem?_eq_some_iff.mp e2).1; omega
        have ew := List.getElem?_eq_getElem hn
        refine .inl ⟨c, vs, j, vs[n], rfl, rfl, .inr (.inl (.inl rx)), ixN_at (by rw [← l]; exact e1) ew, ?_⟩
        exact fin s _ x _ kk _ H2 (s1.trans s2) ⟨d0, o0, v0, g1, g2, At.snoc (At.tup1 e2) g3, VAt.snoc (VAt.tup1 rx e2 ew) g3 g4⟩
    · rename_i z j e
      cases e
      obtain ⟨hz, n, c, e1, e2, kk⟩ := hk2
      cases r2
      cases rd
      refine .inr ⟨z, j, c, rfl, rfl, hz, ixN_at e1 e2, ?_⟩
      exact fin s _ _ _ kk _ H2 (s1.trans s2) ⟨d0, o0, v0, g1, g2, At.snoc (At.str1 e2) g3, VAt.snoc (VAt.str1 e2) g3 g4⟩
    · exact hk2.elim
  | _ => cases h
theorem sndP_ixD {a i : M} (ha : SndP T cl N a) : SndP T cl N (.ixD a i) := fun {sc X} G hp hq e h => by
  obtain ⟨qa, qi⟩ := ba (show (a.quiet && i.quiet) = true from hq)
  cases e with
  | Subscript e f p =>
    obtain ⟨h, h3⟩ := ba (show (mE N a sc e && mE N i sc f && plainE f) = true from h)
    obtain ⟨h1, h2⟩ := ba h
    refine PE.of (pe_dget (by have := G.un; omega) (ha G (show a.isPl = true from hp) qa e h1) ((sndB (T := T) (cl := cl) i sc X G qi).1 f h2) (ix_of h3)) fun σ H Q ⟨ρ, k, R, w, fin⟩ => ?_
    refine ⟨ρ, _, R, w, fun s q d o hk v H1 s1 pl => ⟨ρ, _, R.ext s1, hk, fun y hk2 u H2 s2 r2 => ?_⟩⟩
    have pl2 := pl.ext s2
    have rd := pl2.read ((R.ext s1).ext s2)
    obtain ⟨d0, o0, v0, g1, g2, g3, g4⟩ := pl2
    split at hk2
    · rename_i kvs y' e
      cases e
      obtain ⟨key, x, e1, e2, kk⟩ := hk2
      cases rd with
      | @dic _ c ws _ rx l ch =>
        obtain ⟨t, e3, rt⟩ := val_of l ch e2
        exact ⟨c, t, rfl, .inl ⟨ws, key, rx, key_v r2 e1, e3.symm⟩, fin s _ x _ kk _ H2 (s1.trans s2) ⟨d0, o0, v0, g1, g2, At.snoc (At.dic1 e2) g3, VAt.snoc (VAt.dic1 rx e2 e3) g3 g4⟩⟩
    · exact hk2.elim
  | _ => cases h
theorem sndP (m : M) : SndP T cl N m := by
  induction m with
  | var i => exact sndP_var
  | ixL a i ha _ => exact sndP_ixL ha
  | ixD a i ha _ => exact sndP_ixD ha
  | _ => exact fun _ hp => by cases hp
/-- what nobody may write at a place is at hand -/
theorem Rst.giveAt {s : Nat} {p : List PKey} {d : D} {o : Ow} {v : V} (R : Rst cl b σ H ρ ts) (h : PlAt ρ σ H s p d o v) (hd : d.flat = true ∨ o = .sh) : Rst cl b σ H ρ (ts ++ [(v, d, .sh)]) := by
  rw [← List.append_nil ts] at R
  refine R.giveSh [(v, d)] fun S F fs sl W q hq => ?_
  cases List.mem_singleton.mp hq
  obtain ⟨d0, o0, v0, h1, h2, h3, h4⟩ := h
  obtain ⟨v1, e1, e2⟩ := sl.get h1
  rw [h2] at e2; cases e2
  obtain ⟨fp, r, _, _⟩ := focus h3 (W.rp (.inl s) v0 d0 o0 (cells_at e1)) h4
  rcases hd with hd | hd
  · obtain ⟨e, _⟩ := (Rp.flat hd).mp r
    rw [e]
    exact Rs.of_flat cl hd
  · subst hd
    exact ((Rp.sh_iff cl).mp r).1
theorem pl_e {m : M} {e : Expr} (hw : ∀ ρ k xc, wE T m ρ k xc → plW T m ρ fun _ _ d o => (d.flat = true ∨ o = .sh) ∧ k [.dat d .sh] ρ) (h : PE X e (tP cl T m)) : PE X e (tE cl T b W m) :=
  PE.of h fun σ H Q ⟨ρ, ts, k, xc, R, w, x, f⟩ => ⟨ρ, _, R.rdb, hw ρ k xc w, fun s p d o hk v H' s1 pl => f _ ρ hk.2 v H' trivial ((R.ext s1).giveAt pl hk.1)⟩
theorem isPl_quiet {a i : M} {m : M} (hm : m = .ixL a i ∨ m = .ixD a i) (ha : a.isPl = true) (qa : a.quiet = true) (qi : i.quiet = true) : m.isPl = true ∧ m.quiet = true := by
  rcases hm with rfl | rfl <;> exact ⟨ha, by show (a.quiet && i.quiet) = true; rw [qa, qi]; rfl⟩
theorem sub_inv {a i : M} {e : Expr} (h : mE N (.ixL a i) sc e = true) : ∃ e1 f p, e = .Subscript e1 f p ∧ mE N a sc e1 = true ∧ mE N i sc f = true ∧ plainE f = true := by
  cases e with
  | Subscript e f p =>
    obtain ⟨h, h3⟩ := ba (show (mE N a sc e && mE N i sc f && plainE f) = true from h)
    obtain ⟨h1, h2⟩ := ba h
    exact ⟨e, f, p, rfl, h1, h2, h3⟩
  | _ => cases h
theorem sne_ixL {a i : M} (ha : SnE T cl N lv a) (hi : SnE T cl N lv i) : SnE T cl N lv (.ixL a i) := by
  have key : ∀ {sc X W}, Gd T cl W X N sc lv → ∀ b e, mE N (.ixL a i) sc e = true → PE X e (tE cl T b W (.ixL a i)) := fun {sc X W} G b e h => by
    cases q : a.isPl && a.quiet && i.quiet with
    | true =>
      obtain ⟨q1, q3⟩ := ba q
      obtain ⟨q1, q2⟩ := ba q1
      obtain ⟨p1, p2⟩ := isPl_quiet (m := .ixL a i) (.inl rfl) q1 q2 q3
      refine pl_e (fun ρ k xc w => ?_) (sndP _ G.toGq p1 p2 e h)
      have w' : (if (a.isPl && a.quiet && i.quiet) = true then _ else _) := w
      rw [if_pos q] at w'; exact w'
    | false =>
      obtain ⟨e1, f, p, rfl, h1, h2, h3⟩ := sub_inv h
      refine PE.of (pe_ix ix_any (ha.e G b e1 h1) (hi.e G b f h2) (ix_of h3)) fun σ H Q ⟨ρ, ts, k, xc, R, w, x, fin⟩ => ?_
      have w' : (if (a.isPl && a.quiet && i.quiet) = true then _ else _) := w
      rw [if_neg (by rw [q]; decide)] at w'
      refine twoE R w' x fun xs ys ρ2 hk v u H' ft fu R' => ?_
      split at hk
      · rename_i x0 ox y0 oy
        -- nobody may write the two any more
        have R2 : Rst cl b σ H' ρ2 (ts ++ [(v, x0, .sh), (u, y0, .sh)]) := by
          rw [List.append_assoc] at R'
          exact R'.freeze
        obtain ⟨F, rd, giv⟩ := R2.openSh
        exact ixL_v (X := X) (rd 0 _ _ rfl) (rd 1 _ _ rfl) hk fun r z kr rz => fin _ ρ2 kr z H' trivial (giv [(z, r)] fun q hq => by cases List.mem_singleton.mp hq; exact rz)
      · exact hk.elim
  exact ⟨key, fun G b e _ h => pt_e (key G b e h) (by obtain ⟨_, _, _, rfl, _⟩ := sub_inv h; rfl), no_eA fun _ _ => rfl⟩
end
end DL
/-! DL13: slices, built-ins, list(), join, repr. -/
namespace DL
open PySem PySem.Spec PyProof.Rows L2
section
variable {T : Tab} {cl : Str → Addr} {N : List Str} {lv : Nat} {b : Bs} {σ : L2.St} {H H' : Hp} {ρ : DEnv} {ts us : List Cell} {W : WX} {X : Cx} {sc : Scope}
/-- the part of a slice, that may call -/
def tEO (cl : Str → Addr) (T : Tab) (b : Bs) (W : WX) (m : M) : TO := fun σ H Q => ∃ ρ ts k xc, Rst cl b σ H ρ ts ∧ wE T m ρ k xc ∧ Xk cl b σ W xc ∧ ∀ xs ρ', k xs ρ' → ∃ l, datas xs = some l ∧ optI l fun oi => ∀ H', Rst cl b σ H' ρ' ts → Q oi H'
def SnO (T : Tab) (cl : Str → Addr) (N : List Str) (lv : Nat) (m : M) : Prop := ∀ {sc X W}, Gd T cl W X N sc lv → ∀ b o, mO N m sc o = true → PO X o (tEO cl T b W m)
theorem no_eO {m : M} (h : ∀ sc o, mO N m sc o = false) : SnO T cl N lv m := fun {sc X W} _ _ o q => by rw [h] at q; cases q
theorem sno_nil : SnO T cl N lv .nil := fun {sc X W} G b o h => by
  cases o with
  | some e => cases h
  | none =>
    refine ⟨fun pins s σ H Q I ⟨ρ, ts, k, xc, R, w, x, f⟩ => po_none.run pins s σ H Q I ?_⟩
    obtain ⟨l, e, z⟩ := f [] ρ w
    cases e
    exact (z : ∀ H', Rst cl b σ H' ρ ts → Q none H') H R
theorem sno_cons {a as : M} (ha : SnE T cl N lv a) : SnO T cl N lv (.cons a as) := fun {sc X W} G b o h => by
  cases as with
  | nil =>
    cases o with
    | none => cases h
    | some e =>
      have q := ha.e G b e h
      refine ⟨fun pins s σ H Q I ⟨ρ, ts, k, xc, R, w, x, f⟩ => (po_some q).run pins s σ H Q I ?_⟩
      refine ⟨ρ, ts, _, xc, R, w, x, fun xs ρ1 hk v H1 ft R1 => ?_⟩
      have hk : xs.length = 1 ∧ k (xs ++ []) ρ1 := hk
      rw [List.append_nil] at hk
      obtain ⟨l, e1, z⟩ := f xs ρ1 hk.2
      obtain ⟨e2, e3, e4⟩ := datas_cells e1 ft
      rcases fit1 ft with ⟨d, o, rfl⟩ | ⟨i, rfl, _⟩
      · cases e1
        have r := Rst.read1 (show Rst cl b σ H1 ρ1 (ts ++ [(v, d, o)]) from R1)
        unfold optI at z
        split at z
        · rename_i e; cases e
        · rename_i e; cases e
          cases r
          exact ⟨_, rfl, z H1 R1.drop⟩
        · exact z.elim
      · cases e1
  | _ => cases o <;> cases h
theorem sne_sliS {a lo hi : M} (ha : SnE T cl N lv a) (hl : SnO T cl N lv lo) (hh : SnO T cl N lv hi) : SnE T cl N lv (.sliS a lo hi) := by
  have inv : ∀ {sc e}, mE N (.sliS a lo hi) sc e = true → ∃ e1 l h p2 p, e = .Subscript e1 (.Slice l h none p2) p ∧ mE N a sc e1 = true ∧ mO N lo sc l = true ∧ mO N hi sc h = true := fun {sc e} h => by
    cases e with
    | Subscript e f p =>
      cases f with
      | Slice l u st p2 =>
        cases st with
        | some _ => cases h
        | none =>
          obtain ⟨h, h3⟩ := ba (show (mE N a sc e && mO N lo sc l && mO N hi sc u) = true from h)
          obtain ⟨h1, h2⟩ := ba h
          exact ⟨e, l, u, p2, p, rfl, h1, h2, h3⟩
      | _ => cases h
    | _ => cases h
  have key : ∀ {sc X W}, Gd T cl W X N sc lv → ∀ b e, mE N (.sliS a lo hi) sc e = true → PE X e (tE cl T b W (.sliS a lo hi)) := fun {sc X W} G b e h => by
    cases q : a.quiet && lo.quiet && hi.quiet with
    | true =>
      exact via_e (fun ρ k xc w => by
        have w' : (if (a.quiet && lo.quiet && hi.quiet) = true then _ else _) := w
        rw [if_pos q] at w'; exact w') ((sndB (.sliS a lo hi) sc X G.toGq q).1 e h)
    | false =>
      obtain ⟨e1, l, u, p2, p, rfl, h1, h2, h3⟩ := inv h
      refine PE.of (pe_slice sl_str (ha.e G b e1 h1) (hl G b l h2) (hh G b u h3)) fun σ H Q ⟨ρ, ts, k, xc, R, w, x, fin⟩ => ?_
      have w' : (if (a.quiet && lo.quiet && hi.quiet) = true then _ else _) := w
      rw [if_neg (by rw [q]; decide)] at w'
      refine ⟨ρ, ts, _, xc, R, w', x, fun xs ρ1 hk v H1 ft R1 => ?_⟩
      split at hk
      · rename_i z o
        have r := Rst.read1 (show Rst cl b σ H1 ρ1 (ts ++ [(v, .str z, o)]) from R1)
        cases r
        refine ⟨ρ1, ts, _, xc, R1.drop, hk, x, fun ls ρ2 hk2 => ?_⟩
        split at hk2
        · rename_i l e
          refine ⟨l, e, optI_mono hk2 fun oi w3 H2 R2 => ?_⟩
          refine ⟨ρ2, ts, _, xc, R2, w3, x, fun hs ρ3 hk3 => ?_⟩
          split at hk3
          · rename_i l' e'
            refine ⟨l', e', optI_mono hk3 fun oj w4 H3 R3 => ?_⟩
            exact ⟨z, rfl, w4.1, fin _ ρ3 w4.2 _ H3 trivial (R3.flat (d := .str _) rfl)⟩
          · exact hk3.elim
        · exact hk2.elim
      · exact hk.elim
  exact ⟨key, fun G b e _ h => pt_e (key G b e h) (by obtain ⟨_, _, _, _, _, rfl, _⟩ := inv h; rfl), no_eA fun _ _ => rfl⟩
theorem sne_ixD {a i : M} : SnE T cl N lv (.ixD a i) := by
  have key : ∀ {sc X W}, Gd T cl W X N sc lv → ∀ b e, mE N (.ixD a i) sc e = true → PE X e (tE cl T b W (.ixD a i)) := fun {sc X W} G b e h => by
    cases q : a.isPl && a.quiet && i.quiet with
    | true =>
      obtain ⟨q1, q3⟩ := ba q
      obtain ⟨q1, q2⟩ := ba q1
      obtain ⟨p1, p2⟩ := isPl_quiet (m := .ixD a i) (.inr rfl) q1 q2 q3
      exact pl_e (fun ρ k xc w => (show _ ∧ _ from w).2) (sndP _ G.toGq p1 p2 e h)
    | false => exact ⟨fun pins s σ H Q I ⟨ρ, ts, k, xc, R, w, x, fin⟩ => by have := (show (a.isPl && a.quiet && i.quiet) = true ∧ _ from w).1; rw [q] at this; cases this⟩
  refine ⟨key, fun G b e _ h => pt_e (key G b e h) ?_, no_eA fun _ _ => rfl⟩
  cases e with
  | Subscript _ _ _ => rfl
  | _ => cases h
theorem sne_gcon {x : Str} : SnE T cl N lv (.gcon x) := by
  have key : ∀ {sc X W}, Gd T cl W X N sc lv → ∀ b e, mE N (.gcon x) sc e = true → PE X e (tE cl T b W (.gcon x)) := fun {sc X W} G b e h =>
    via_e (fun ρ k xc w => by
      have w' : (match T.con x with | some d => d.flat = true ∧ k [.dat d .sh] ρ | none => False) := w
      show (match T.con x with | some d => d.flat = true ∧ _ | none => False)
      split at w'
      · exact ⟨w'.1, w'⟩
      · exact w'.elim) ((sndB (.gcon x) sc X G.toGq rfl).1 e h)
  refine ⟨key, fun G b e _ h => pt_e (key G b e h) ?_, no_eA fun _ _ => rfl⟩
  cases e with
  | Name _ _ => rfl
  | _ => cases h
theorem sne_isa {a : M} {tys : List Ty} : SnE T cl N lv (.isa a tys) := by
  have no : ∀ {P : Prop} {ρ k xc}, a.quiet = false → wE T (.isa a tys) ρ k xc → P := fun {P ρ k xc} q w => by have := (show a.quiet = true ∧ _ from w).1; rw [q] at this; cases this
  refine ⟨fun {sc X W} G b e h => ?_, fun {sc X W} G b e ht h => ?_, no_eA fun _ _ => rfl⟩
  · cases q : a.quiet with
    | true => exact via_e (fun ρ k xc w => (show _ ∧ _ from w).2) ((sndB (.isa a tys) sc X G.toGq q).1 e h)
    | false => exact ⟨fun pins s σ H Q I ⟨ρ, ts, k, xc, R, w, x, fin⟩ => no q w⟩
  · cases q : a.quiet with
    | true => exact via_t (fun ρ k xc w => (show _ ∧ _ from w).2) ((sndB (.isa a tys) sc X G.toGq q).2.1 e ht h)
    | false => exact ⟨fun pins s σ H Q I ⟨ρ, ts, k, xc, R, w, x, fin⟩ => no q w⟩
/-- what is at hand may be read -/
theorem Rst.readAll {vs : List V} {xs : List Arg} {ds : List D} (R : Rst cl b σ H ρ (ts ++ cellsOf vs xs)) (e : datas xs = some ds) (f : Fit σ vs xs) : RsL cl all H ds vs := by
  obtain ⟨h1, h2, h3⟩ := datas_cells e f
  refine ⟨h3, fun i d v e1 e2 => ?_⟩
  rw [← h1] at e1
  rw [← h2] at e2
  unfold dOf at e1
  unfold vOf at e2
  rw [List.getElem?_map] at e1 e2
  cases q : (cellsOf vs xs)[i]? with
  | none => rw [q] at e1; cases e1
  | some c =>
    rw [q] at e1 e2
    obtain ⟨v', d', o'⟩ := c
    cases e1; cases e2
    exact R.readT (k := ts.length + i) (o := o') (by rw [List.getElem?_append_right (Nat.le_add_right _ _), Nat.add_sub_cancel_left]; exact q)
theorem sne_bi {f : Bi} {as : M} (ha : SnE T cl N lv as) : SnE T cl N lv (.bi f as) := by
  have inv : ∀ {sc e}, mE N (.bi f as) sc e = true → ∃ x es p q, e = .Call (.Name x p) es [] q ∧ x = f.nm ∧ gloB sc x = true ∧ mA N as sc es = true ∧ es.isEmpty = false := fun {sc e} h => by
    cases e with
    | Call g es ks p =>
      cases g with
      | Name x q =>
        cases ks with
        | cons _ _ => cases h
        | nil =>
          obtain ⟨h, h4⟩ := ba (show (decide (x = f.nm) && gloB sc x && mA N as sc es && !es.isEmpty) = true from h)
          obtain ⟨h, h3⟩ := ba h
          obtain ⟨h1, h2⟩ := ba h
          exact ⟨x, es, q, p, rfl, dec_eq h1, h2, h3, by simpa using h4⟩
      | _ => cases h
    | _ => cases h
  have key : ∀ {sc X W}, Gd T cl W X N sc lv → ∀ b e, mE N (.bi f as) sc e = true → PE X e (tE cl T b W (.bi f as)) := fun {sc X W} G b e h => by
    cases q : as.quiet with
    | true =>
      exact via_e (fun ρ k xc w => by
        have w' : (if as.quiet = true then _ else _) := w
        rw [if_pos q] at w'; exact w') ((sndB (.bi f as) sc X G.toGq q).1 e h)
    | false =>
      obtain ⟨x, es, p, pp, rfl, h1, h2, h3, h4⟩ := inv h
      refine PE.of (pe_bi (r := fun vs H Q => ∃ xs k, RsL cl all H xs vs ∧ biW f xs k ∧ ∀ d, k d → d.flat = true → Q d.toV H) G.toGq h1 h2 (ha.a G b es h3) (mA_plain h3) h4 ?_) fun σ H Q ⟨ρ, ts, k, xc, R, w, x, fin⟩ => ?_
      · intro pins s σ H vs us Q I rv ⟨xs, k, r, w, fin⟩
        have z := call_b (cl := cl) G.calm r w fin I rv
        exact z
      · have w' : (if as.quiet = true then _ else _) := w
        rw [if_neg (by rw [q]; decide)] at w'
        refine ⟨ρ, ts, _, xc, R, w', x, fun xs ρ1 hk vs H1 ft R1 => ?_⟩
        split at hk
        · rename_i ds e
          exact ⟨ds, _, R1.readAll e ft, hk, fun d kd fd => fin _ ρ1 kd _ H1 trivial (R1.drop.flat fd)⟩
        · exact hk.elim
  exact ⟨key, fun G b e _ h => pt_e (key G b e h) (by obtain ⟨_, _, _, _, rfl, _⟩ := inv h; rfl), no_eA fun _ _ => rfl⟩

/-! ### one argument -/
theorem arg1 {x : Str} {e : Expr} {p pos : Pos} {t : TE} {r : List V → Hp → VK → Prop} {f : Value} (G : Gq T X N sc) (hg : gloB sc x = true) (hm : x ∈ biNames) (hb : (∃ id, f = .builtin id) ∨ ∃ n, f = .type n) (hv : bootBuiltins x = some f) (hn : x ≠ "__name__") (hdb : (x == ("__debug__" : Str)) = false) (he : PE X e t) (hp : plainE e = true) (hr : CallR X f r) :
    PE X (.Call (.Name x p) [e] [] pos) (fun σ H Q => t σ H fun v H1 => r [v] H1 Q) := by
  have s1 := star_of (es := []) (env := X.env) hp
  rcases hb with ⟨id, rfl⟩ | ⟨n, rfl⟩
  · exact pe_callB hr (glo_of G hg) (G.bi _ hm) hv (pa_cons he pa_nil s1) hn hdb s1 rfl
  · exact pe_callTy hr (glo_of G hg) (G.bi _ hm) hv (pa_cons he pa_nil s1) hn hdb s1 rfl
theorem rep_boot : bootBuiltins "repr" = some (.builtin "repr") ∧ bootBuiltins "list" = some (.type "list") := by decide +kernel
theorem call_repr_dp (hg : X.A.guards = some []) (hu : X.A.units + 65 < cLine) : CallR X (.builtin "repr") (fun vs H Q => ∃ v p, vs = [v] ∧ Dp X.K H v p ∧ p.showable = true ∧ p.depth ≤ 40 ∧ p.hasDict = false ∧ p.shown.length ≤ sizeLine ∧ Q (.str p.shown) H) := by
  intro pins s σ H vs us Q I r ⟨v, p, e, dp, h1, h2, h3, h4, q⟩
  subst e
  obtain ⟨u, rfl, ru⟩ := vals1 r
  obtain ⟨as, rd⟩ := Dp.reads I p v u dp ru
  cases dp with
  | non => cases ru; exact PySem.P.repr_of_none ⟨.str _, H, I.tok _, ⟨_, rfl⟩, q⟩
  | bl c => cases ru; exact PySem.P.repr_of_bool ⟨.str _, H, I.tok _, ⟨_, rfl⟩, q⟩
  | int i =>
    obtain ⟨t, rfl⟩ := ru
    exact PySem.P.repr_of_int (by simpa [PyData.showable] using h1) ⟨.str _, H, I.tok _, ⟨_, rfl⟩, q⟩
  | str z =>
    obtain ⟨t, rfl⟩ := ru
    exact PySem.P.repr_of_str ⟨.str _, H, I.tok _, ⟨_, rfl⟩, q⟩ h4
  | lst _ _ =>
    cases ru
    exact PySem.repr_of_reads' rd h1 (PyData.noDict_hsm h3) hg (by omega) (fun _ _ e => e) (fun h' u tk hk => ⟨.str _, H, I.kept hk, ⟨_, rfl⟩, q⟩) h4
  | tup _ _ =>
    cases ru
    exact PySem.repr_of_reads' rd h1 (PyData.noDict_hsm h3) hg (by omega) (fun _ _ e => e) (fun h' u tk hk => ⟨.str _, H, I.kept hk, ⟨_, rfl⟩, q⟩) h4
theorem sne_rep {a : M} (ha : SnE T cl N lv a) : SnE T cl N lv (.rep a) := by
  have inv : ∀ {sc e}, mE N (.rep a) sc e = true → ∃ e1 p q, e = .Call (.Name "repr" p) [e1] [] q ∧ gloB sc "repr" = true ∧ mE N a sc e1 = true ∧ plainE e1 = true := fun {sc e} h => by
    cases e with
    | Call g es ks p =>
      cases g with
      | Name x q =>
        match es, ks, h with
        | [e], [], h =>
          obtain ⟨h, h4⟩ := ba (show (decide (x = ("repr" : Str)) && gloB sc x && mE N a sc e && plainE e) = true from h)
          obtain ⟨h, h3⟩ := ba h
          obtain ⟨h1, h2⟩ := ba h
          cases dec_eq h1
          exact ⟨e, q, p, rfl, h2, h3, h4⟩
        | [], _, h => cases h
        | [_], _ :: _, h => cases h
        | _ :: _ :: _, _, h => cases h
      | _ => cases h
    | _ => cases h
  have key : ∀ {sc X W}, Gd T cl W X N sc lv → ∀ b e, mE N (.rep a) sc e = true → PE X e (tE cl T b W (.rep a)) := fun {sc X W} G b e h => by
    obtain ⟨e1, p, q, rfl, h1, h2, h3⟩ := inv h
    refine PE.of (arg1 G.toGq h1 (by decide +kernel) (.inl ⟨_, rfl⟩) rep_boot.1 (by decide +kernel) (by decide +kernel) (ha.e G b e1 h2) h3 (call_repr_dp G.gd G.un)) fun σ H Q ⟨ρ, ts, k, xc, R, w, x, fin⟩ => ?_
    refine ⟨ρ, ts, _, xc, R, w, x, fun xs ρ1 hk v H1 ft R1 => ?_⟩
    split at hk
    · rename_i d o
      split at hk
      · rename_i p e
        have r := Rst.read1 (show Rst cl b σ H1 ρ1 (ts ++ [(v, d, o)]) from R1)
        exact ⟨v, p, rfl, Rs.dp d e r, hk.1, hk.2.1, hk.2.2.1, hk.2.2.2.1, fin _ ρ1 hk.2.2.2.2 _ H1 trivial (R1.drop.flat (d := .str _) rfl)⟩
      · exact hk.elim
    · exact hk.elim
  exact ⟨key, fun G b e _ h => pt_e (key G b e h) (by obtain ⟨_, _, _, rfl, _⟩ := inv h; rfl), no_eA fun _ _ => rfl⟩
/-- the items of what nobody may write -/
theorem Rst.kids {d : D} {v : V} {ds : List D} (R : Rst cl b σ H ρ (ts ++ [(v, d, .sh)])) (hd : d = .lst ds ∨ d = .tup ds) : ∃ a vs, v = .ref a ∧ (Rx H a (.lst vs) ∨ Rx H a (.tup vs)) ∧ ds.length = vs.length ∧ Rst cl b σ H ρ (ts ++ (vs.zip ds).map fun p => (p.1, p.2, .sh)) := by
  obtain ⟨F, rd, giv⟩ := R.openSh
  have r := rd 0 v d rfl
  have fin : ∀ {vs : List V}, ds.length = vs.length → (∀ (i : Nat) d v, ds[i]? = some d → vs[i]? = some v → Rs cl F H d v) → Rst cl b σ H ρ (ts ++ (vs.zip ds).map fun p => (p.1, p.2, .sh)) := fun {vs} l c => giv _ fun q hq => by
    obtain ⟨i, hi⟩ := List.getElem?_of_mem hq
    rw [List.getElem?_zip_eq_some] at hi
    exact c i _ _ hi.2 hi.1
  rcases hd with rfl | rfl
  · cases r with
    | @lst _ a vs _ rx l c => exact ⟨a, vs, rfl, .inl rx, l, fin l c⟩
  · cases r with
    | @tup _ a vs _ rx l c => exact ⟨a, vs, rfl, .inr rx, l, fin l c⟩
theorem Rst.freeze1 {v : V} {d : D} {o : Ow} (R : Rst cl b σ H ρ (ts ++ [(v, d, o)])) : Rst cl b σ H ρ (ts ++ [(v, d, .sh)]) := R.freeze
theorem zipC {vs : List V} {ds : List D} (l : ds.length = vs.length) : vOf ((vs.zip ds).map fun p => ((p.1, p.2, .sh) : Cell)) = vs ∧ dOf ((vs.zip ds).map fun p => ((p.1, p.2, .sh) : Cell)) = ds := by
  constructor
  · simp [vOf, List.map_map, Function.comp_def, List.map_fst_zip (Nat.le_of_eq l.symm)]
  · simp [dOf, List.map_map, Function.comp_def, List.map_snd_zip (Nat.le_of_eq l)]
theorem sne_lstOf {a : M} (ha : SnE T cl N lv a) : SnE T cl N lv (.lstOf a) := by
  have inv : ∀ {sc e}, mE N (.lstOf a) sc e = true → ∃ e1 p q, e = .Call (.Name "list" p) [e1] [] q ∧ gloB sc "list" = true ∧ mE N a sc e1 = true ∧ plainE e1 = true := fun {sc e} h => by
    cases e with
    | Call g es ks p =>
      cases g with
      | Name x q =>
        match es, ks, h with
        | [e], [], h =>
          obtain ⟨h, h4⟩ := ba (show (decide (x = ("list" : Str)) && gloB sc x && mE N a sc e && plainE e) = true from h)
          obtain ⟨h, h3⟩ := ba h
          obtain ⟨h1, h2⟩ := ba h
          cases dec_eq h1
          exact ⟨e, q, p, rfl, h2, h3, h4⟩
        | [], _, h => cases h
        | [_], _ :: _, h => cases h
        | _ :: _ :: _, _, h => cases h
      | _ => cases h
    | _ => cases h
  have key : ∀ {sc X W}, Gd T cl W X N sc lv → ∀ b e, mE N (.lstOf a) sc e = true → PE X e (tE cl T b W (.lstOf a)) := fun {sc X W} G b e h => by
    obtain ⟨e1, p, q, rfl, h1, h2, h3⟩ := inv h
    refine PE.of (arg1 G.toGq h1 (by decide +kernel) (.inr ⟨_, rfl⟩) rep_boot.2 (by decide +kernel) (by decide +kernel) (ha.e G b e1 h2) h3 call_list_of) fun σ H Q ⟨ρ, ts, k, xc, R, w, x, fin⟩ => ?_
    refine ⟨ρ, ts, _, xc, R, w, x, fun xs ρ1 hk v H1 ft R1 => ?_⟩
    have done : ∀ {d : D} {ds : List D} {o : Ow}, xs = [.dat d o] → (d = .lst ds ∨ d = .tup ds) → k [.dat (.lst ds) (.own .sh)] ρ1 → ∃ p ys, [v] = [V.ref p] ∧ (SqL X.K H1 p ys ∨ SqT X.K H1 p ys) ∧ ∀ l, H1 l = none → Q (.ref l) (upd H1 l (.lst ys)) := fun {d ds o} e hd hk' => by
      subst e
      obtain ⟨a, vs, rfl, rx, l, R2⟩ := Rst.kids (Rst.freeze1 (show Rst cl b σ H1 ρ1 (ts ++ [(v, d, o)]) from R1)) hd
      refine ⟨a, vs, rfl, by rcases rx with rx | rx; exact .inl (.inl rx); exact .inr (.inl (.inl rx)), fun p hp => fin _ ρ1 hk' _ _ trivial ?_⟩
      have q := R2.newLst (c := .sh) (fun p hp => by obtain ⟨_, _, rfl⟩ := List.mem_map.mp hp; exact .inr rfl) hp
      rw [(zipC l).1, (zipC l).2] at q
      exact q
    split at hk
    · exact done rfl (.inl rfl) hk
    · exact done rfl (.inr rfl) hk
    · exact hk.elim
  exact ⟨key, fun G b e _ h => pt_e (key G b e h) (by obtain ⟨_, _, _, rfl, _⟩ := inv h; rfl), no_eA fun _ _ => rfl⟩
theorem strs_v {F : SetA} : ∀ {ds : List D} {ss : List Str} {vs : List V}, D.strs ds = some ss → RsL cl F H ds vs → vs = ss.map V.str
  | [], ss, vs, e, r => by cases e; rw [r.nil_inv]; rfl
  | d :: ds, ss, vs, e, r => by
    obtain ⟨v, vs', rfl, h1, h2⟩ := r.inv
    cases d with
    | str z =>
      have e : (D.strs ds).map (z :: ·) = some ss := e
      cases q : D.strs ds with
      | none => rw [q] at e; cases e
      | some ss' =>
        rw [q] at e
        cases e
        cases h1
        rw [strs_v q h2]; rfl
    | _ => cases e
theorem sne_join {a c : M} (ha : SnE T cl N lv a) (hc : SnE T cl N lv c) : SnE T cl N lv (.join a c) := by
  have inv : ∀ {sc e}, mE N (.join a c) sc e = true → ∃ o q e1 p, e = .Call (.Attribute o "join" q) [e1] [] p ∧ mE N a sc o = true ∧ baseE o = true ∧ mE N c sc e1 = true ∧ plainE e1 = true ∧ (q.endLine == p.line) = true := fun {sc e} h => by
    cases e with
    | Call g es ks p =>
      cases g with
      | Attribute o m q =>
        match es, ks, h with
        | [e], [], h =>
          obtain ⟨h, h6⟩ := ba (show (decide (m = ("join" : Str)) && mE N a sc o && baseE o && mE N c sc e && plainE e && (q.endLine == p.line)) = true from h)
          obtain ⟨h, h5⟩ := ba h
          obtain ⟨h, h4⟩ := ba h
          obtain ⟨h, h3⟩ := ba h
          obtain ⟨h1, h2⟩ := ba h
          cases dec_eq h1
          exact ⟨o, q, e, p, rfl, h2, h3, h4, h5, h6⟩
        | [], _, h => cases h
        | [_], _ :: _, h => cases h
        | _ :: _ :: _, _, h => cases h
      | _ => cases h
    | _ => cases h
  have key : ∀ {sc X W}, Gd T cl W X N sc lv → ∀ b e, mE N (.join a c) sc e = true → PE X e (tE cl T b W (.join a c)) := fun {sc X W} G b e h => by
    obtain ⟨o, q, e1, p, rfl, h1, h2, h3, h4, h5⟩ := inv h
    refine PE.of (pe_join (ha.e G b o h1) (hc.e G b e1 h3) (star_of (es := []) h4) (base_of h2) h5) fun σ H Q ⟨ρ, ts, k, xc, R, w, x, fin⟩ => ?_
    refine ⟨ρ, ts, _, xc, R, w, x, fun xs ρ1 hk v H1 ft R1 => ?_⟩
    split at hk
    · rename_i z oz
      have isS : v = .str z := by
        have r := Rst.read1 (show Rst cl b σ H1 ρ1 (ts ++ [(v, .str z, oz)]) from R1)
        cases r; rfl
      refine ⟨⟨z, isS⟩, ρ1, _, _, xc, R1, hk, x, fun ys ρ2 hk2 u H2 fu R2 => ?_⟩
      split at hk2
      · rename_i ds ol
        split at hk2
        · rename_i ss e
          obtain ⟨r1, r2⟩ := Rst.read2 (show Rst cl b σ H2 ρ2 (ts ++ [(v, .str z, oz)] ++ [(u, .lst ds, ol)]) from R2)
          cases r1
          cases r2 with
          | @lst _ a vs _ rx l c =>
            refine ⟨z, a, ss, rfl, rfl, ?_, hk2.1, fin _ ρ2 hk2.2 _ H2 trivial (R2.drop2.flat (d := .str _) rfl)⟩
            rw [← strs_v e ⟨l, c⟩]
            exact .inl (.inl rx)
        · exact hk2.elim
      · exact hk2.elim
    · exact hk.elim
  exact ⟨key, fun G b e _ h => pt_e (key G b e h) (by obtain ⟨_, _, _, _, rfl, _⟩ := inv h; rfl), no_eA fun _ _ => rfl⟩
end
end DL
/-! DL14: pop, displays of dicts, calls. -/
namespace DL
open PySem PySem.Spec PyProof.Rows L2
section
variable {T : Tab} {cl : Str → Addr} {N : List Str} {lv : Nat} {b : Bs} {σ : L2.St} {H H' : Hp} {ρ : DEnv} {ts us : List Cell} {W : WX} {X : Cx} {sc : Scope}
/-- a list that this frame may write stands where it stands -/
theorem Rst.nodeL {s : Nat} {d0 : D} {o0 o : Ow} {p : List PKey} {v : V} {ds : List D} (R : Rst cl b σ H ρ ts) (hs : ρ[s]? = some (some (d0, o0))) (at_ : At d0 o0 p (.lst ds) o) (va : ∀ v0, σ[s]? = some (some v0) → VAt H v0 d0 p v) (ho : o ≠ .sh) :
    ∃ a vs, v = .ref a ∧ H a = some (.lst vs) ∧ ds.length = vs.length := by
  obtain ⟨S, F, fs, sl, W⟩ := R
  obtain ⟨v0, e1, e2⟩ := sl.get hs
  obtain ⟨fp, r1, _, _⟩ := focus at_ (W.rp (.inl s) v0 d0 o0 (cells_at e1)) (va v0 e2)
  obtain ⟨a', vs', fs, e1, e2, l, ch, fam⟩ := Rp.lst ho r1
  exact ⟨a', vs', e1, e2, l⟩
theorem Rst.nodeD {s : Nat} {d0 : D} {o0 o : Ow} {p : List PKey} {v : V} {kvs : List (Key × D)} (R : Rst cl b σ H ρ ts) (hs : ρ[s]? = some (some (d0, o0))) (at_ : At d0 o0 p (.dic kvs) o) (va : ∀ v0, σ[s]? = some (some v0) → VAt H v0 d0 p v) (ho : o ≠ .sh) :
    ∃ a ws, v = .ref a ∧ H a = some (.dK ws) ∧ kvs.map (·.1) = ws.map (·.1) := by
  obtain ⟨S, F, fs, sl, W⟩ := R
  obtain ⟨v0, e1, e2⟩ := sl.get hs
  obtain ⟨fp, r1, _, _⟩ := focus at_ (W.rp (.inl s) v0 d0 o0 (cells_at e1)) (va v0 e2)
  obtain ⟨a', vs', fs, e1, e2, l, ch, fam⟩ := Rp.dic ho r1
  exact ⟨a', vs', e1, e2, l.2⟩
theorem PlAt.va {s : Nat} {p : List PKey} {d : D} {o : Ow} {v : V} {d0 : D} {o0 : Ow} (h : PlAt ρ σ H s p d o v) (e : ρ[s]? = some (some (d0, o0))) : At d0 o0 p d o ∧ ∀ v0, σ[s]? = some (some v0) → VAt H v0 d0 p v := by
  obtain ⟨d1, o1, v1, h1, h2, h3, h4⟩ := h
  rw [h1] at e; cases e
  exact ⟨h3, fun v0 q => by rw [h2] at q; cases q; exact h4⟩
theorem tyV_lst {v : V} {ds : List D} (r : Rs cl all H (.lst ds) v) : tyV X.K "list" v H := by
  cases r with
  | @lst _ a vs _ rx l c => exact .inl ⟨rfl, vs, .inl rx⟩
theorem meth_inv {P : Expr → Str → Pos → List Expr → List Keyword → Pos → Bool} {e : Expr} (h : (match e with | .Call (.Attribute o m q) es ks p => P o m q es ks p | _ => false) = true) : ∃ o m q es ks p, e = .Call (.Attribute o m q) es ks p ∧ P o m q es ks p = true := by
  split at h
  · exact ⟨_, _, _, _, _, _, rfl, h⟩
  · cases h
theorem few1 {e : Expr} {cpos : Pos} {env : Env} (h : plainE e = true) : ((backTo cpos (starEach [e] env)).all (fun x => !x.1) && (backToKw cpos (keywordEach [] env)).all (fun x => x.1.isSome)
      && decide (([e] : List Expr).length + ([] : List Keyword).length + (if ([] : List Keyword).isEmpty then 0 else 1) < 30)) = true := by
  rw [star_of h]; rfl
theorem sne_popAt {pl i : M} (hi : SnE T cl N lv i) : SnE T cl N lv (.popAt pl i) := by
  have inv : ∀ {sc e}, mE N (.popAt pl i) sc e = true → ∃ o q e1 p, e = .Call (.Attribute o "pop" q) [e1] [] p ∧ mE N pl sc o = true ∧ baseE o = true ∧ mE N i sc e1 = true ∧ plainE e1 = true ∧ (q.endLine == p.line) = true := fun {sc e} h => by
    cases e with
    | Call g es ks p =>
      cases g with
      | Attribute o m q =>
        match es, ks, h with
        | [e], [], h =>
          obtain ⟨h, h6⟩ := ba (show (decide (m = ("pop" : Str)) && mE N pl sc o && baseE o && mE N i sc e && plainE e && (q.endLine == p.line)) = true from h)
          obtain ⟨h, h5⟩ := ba h
          obtain ⟨h, h4⟩ := ba h
          obtain ⟨h, h3⟩ := ba h
          obtain ⟨h1, h2⟩ := ba h
          cases dec_eq h1
          exact ⟨o, q, e, p, rfl, h2, h3, h4, h5, h6⟩
        | [], _, h => cases h
        | [_], _ :: _, h => cases h
        | _ :: _ :: _, _, h => cases h
      | _ => cases h
    | _ => cases h
  have key : ∀ {sc X W}, Gd T cl W X N sc lv → ∀ b e, mE N (.popAt pl i) sc e = true → PE X e (tE cl T b W (.popAt pl i)) := fun {sc X W} G b e h => by
    obtain ⟨o, q, e1, p, rfl, h1, h2, h3, h4, h5⟩ := inv h
    cases qi : i.quiet with
    | true =>
      cases qp : pl.isPl && pl.quiet with
      | false => exact ⟨fun pins s σ H Q I ⟨ρ, ts, k, xc, R, w, x, fin⟩ => by
          have w' : (if i.quiet = true then (pl.isPl && pl.quiet) = true ∧ _ else _) := w
          rw [if_pos qi, qp] at w'
          cases w'.1⟩
      | true =>
        obtain ⟨q1, q2⟩ := ba qp
        refine PE.of (pe_bm PySem.F.plainAttrs_list PySem.F.slot_list_pop PySem.F.type_list_pop mt_popAt (sndP (cl := cl) pl G.toGq q1 q2 o h1) (pa_cons ((sndB (T := T) (cl := cl) i sc X G.toGq qi).1 e1 h3) pa_nil (star_of h4)) (base_of h2) (few1 h4) h5 (star_of h4) rfl) fun σ H Q ⟨ρ, ts, k, xc, R, w, x, fin⟩ => ?_
        have w' : (if i.quiet = true then (pl.isPl && pl.quiet) = true ∧ _ else _) := w
        rw [if_pos qi] at w'
        refine ⟨ρ, _, R.rdb, w'.2, fun s pp d oo hk v H1 s1 pa => ?_⟩
        split at hk
        · rename_i ds
          refine ⟨tyV_lst (X := X) (pa.read (R.rdb.ext s1)), ρ, _, R.rdb.ext s1, hk, fun y hk2 u H2 s2 ry => ?_⟩
          show rPopAt v [u] H2 Q
          split at hk2
          · rename_i j ej
            cases ej
            obtain ⟨n, x1, d0, o0, ho, e0, b1, b2, e3, e4, kk⟩ := hk2
            cases ry
            have R2 := R.ext (fun a o e => s2 a o (s1 a o e))
            obtain ⟨at_, va⟩ := (pa.ext s2).va e0
            obtain ⟨a, vs, rfl, ha, l⟩ := R2.nodeL e0 at_ va ho
            obtain ⟨w1, e5, R3⟩ := R2.pop e0 at_ va ho rfl ha e4
            exact ⟨a, vs, j, n, w1, rfl, rfl, ha, b1, b2, (ixN_seq (by rw [← l]; exact e3)).1, e5, fin _ _ kk w1 _ trivial R3⟩
          · exact hk2.elim
        · exact hk.elim
    | false =>
      cases pl with
      | var s =>
        obtain ⟨x0, p0, rfl, h1⟩ := name_inv h1
        refine PE.of (pe_bm PySem.F.plainAttrs_list PySem.F.slot_list_pop PySem.F.type_list_pop mt_popAt (okname G.toGq h1) (pa_cons (hi.e G b e1 h3) pa_nil (star_of h4)) (base_of h2) (few1 h4) h5 (star_of h4) rfl) fun σ H Q ⟨ρ, ts, k, xc, R, w, x, fin⟩ => ?_
        have w' : (if i.quiet = true then _ else (∃ ds o, ρ[s]? = some (some (D.lst ds, o))) ∧ _) := w
        rw [if_neg (by rw [qi]; decide)] at w'
        obtain ⟨⟨ds0, o0, e0⟩, w'⟩ := w'
        obtain ⟨v, ev, rv⟩ := R.rdb s _ _ e0
        refine ⟨v, ev, tyV_lst (X := X) rv, ρ, ts, _, xc, R, w', x, fun ys ρ1 hk u H1 ft R1 => ?_⟩
        show rPopAt v [u] H1 Q
        split at hk
        · rename_i j oj ds oo e1
          obtain ⟨n, x1, ho, b1, b2, e3, e4, kk⟩ := hk
          have ru := Rst.read1 (show Rst cl b σ H1 ρ1 (ts ++ [(u, .int j, oj)]) from R1)
          cases ru
          have R2 := R1.drop
          have va : ∀ v0, σ[s]? = some (some v0) → VAt H1 v0 (.lst ds) [] v := fun v0 q => by rw [ev] at q; cases q; exact VAt.nil
          obtain ⟨a, vs, rfl, ha, l⟩ := R2.nodeL e1 At.nil va ho
          obtain ⟨w1, e5, R3⟩ := R2.pop e1 At.nil va ho rfl ha e4
          exact ⟨a, vs, j, n, w1, rfl, rfl, ha, b1, b2, (ixN_seq (by rw [← l]; exact e3)).1, e5, fin _ _ kk w1 _ trivial R3⟩
        · exact hk.elim
      | _ => exact ⟨fun pins s σ H Q I ⟨ρ, ts, k, xc, R, w, x, fin⟩ => by
          have w' : (if i.quiet = true then _ else False) := w
          rw [if_neg (by rw [qi]; decide)] at w'
          exact w'.elim⟩
  exact ⟨key, fun G b e _ h => pt_e (key G b e h) (by obtain ⟨_, _, _, _, rfl, _⟩ := inv h; rfl), no_eA fun _ _ => rfl⟩
end
end DL
/-! DL15: calls of defs. -/
namespace DL
open PySem PySem.Spec PyProof.Rows L2
section
variable {T : Tab} {cl : Str → Addr} {N : List Str} {lv : Nat} {b : Bs} {σ : L2.St} {H H' : Hp} {ρ : DEnv} {ts us : List Cell} {W : WX} {X : Cx} {sc : Scope}

/-! ### keywords -/
def SnK (T : Tab) (cl : Str → Addr) (N : List Str) (lv : Nat) (m : M) : Prop := ∀ {sc X W}, Gd T cl W X N sc lv → ∀ b (kws : List Keyword), mA N m sc (kws.map (·.value)) = true → PK X kws (tEA cl T b W m)
theorem no_eK {m : M} (h : ∀ sc es, mA N m sc es = false) : SnK T cl N lv m := fun {sc X W} _ _ _ q => by rw [h] at q; cases q
theorem PK.of {kws : List Keyword} {t t' : TA} (h : PK X kws t) (i : ∀ σ H Q, t' σ H Q → t σ H Q) : PK X kws t' := ⟨fun pos pins s σ H Q I q => h.run pos pins s σ H Q I (i σ H Q q)⟩
theorem snk_nil : SnK T cl N lv .nil := fun {sc X W} G b kws h => by
  cases kws with
  | cons e es => cases h
  | nil => exact PK.of pk_nil fun σ H Q ⟨ρ, ts, k, xc, R, w, x, f⟩ => f [] ρ w [] H trivial (by rw [show cellsOf [] [] = [] from rfl, List.append_nil]; exact R)
theorem snk_cons {a as : M} (ha : SnE T cl N lv a) (has : SnK T cl N lv as) : SnK T cl N lv (.cons a as) := fun {sc X W} G b kws h => by
  cases kws with
  | nil => cases h
  | cons kw kws =>
    obtain ⟨nm, e, kp⟩ := kw
    obtain ⟨h1, h2⟩ := ba (show (plainE e && mE N a sc e && mA N as sc (kws.map (·.value))) = true from h)
    obtain ⟨h0, h1⟩ := ba h1
    refine PK.of (pk_cons (ha.e G b e h1) (has G b kws h2)) fun σ H Q ⟨ρ, ts, k, xc, R, w, x, f⟩ => ?_
    refine ⟨ρ, ts, _, xc, R, w, x, fun xs ρ1 hk v H1 ft R1 => ?_⟩
    refine ⟨ρ1, ts ++ cellsOf [v] xs, _, xc, R1, hk.2, x, fun ys ρ2 hk2 vs H2 ft2 R2 => ?_⟩
    refine f (xs ++ ys) ρ2 hk2 (v :: vs) H2 (Fit.append (vs := [v]) ft ft2) ?_
    rw [show v :: vs = [v] ++ vs from rfl, cellsOf_append ft, ← List.append_assoc]
    exact R2

/-! ### arguments, one by one -/
theorem argS_at : ∀ {vs : List V} {ds : List D} {os : List Ow} {j : Nat} {c : Option Cell}, (argS vs ds os)[j]? = some c ↔ ∃ v d o, c = some (v, d, o) ∧ vs[j]? = some v ∧ ds[j]? = some d ∧ os[j]? = some o
  | [], ds, os, j, c => by simp [argS]
  | v :: vs, [], os, j, c => by simp [argS]
  | v :: vs, d :: ds, [], j, c => by simp [argS]
  | v :: vs, d :: ds, o :: os, 0, c => by
    show some (some (v, d, o)) = some c ↔ _
    constructor
    · intro h; cases h; exact ⟨v, d, o, rfl, rfl, rfl, rfl⟩
    · rintro ⟨v', d', o', rfl, h1, h2, h3⟩
      cases h1; cases h2; cases h3; rfl
  | v :: vs, d :: ds, o :: os, j + 1, c => by
    show (argS vs ds os)[j]? = some c ↔ _
    simpa using argS_at (vs := vs) (ds := ds) (os := os) (j := j) (c := c)
theorem cells_arg {vs : List V} {ds : List D} {os : List Ow} {ts : List Cell} {j : Nat} {v : V} {d : D} {o : Ow} : cells (argS vs ds os) ts (.inl j) = some (v, d, o) ↔ vs[j]? = some v ∧ ds[j]? = some d ∧ os[j]? = some o := by
  show ((argS vs ds os)[j]?).join = _ ↔ _
  constructor
  · intro h
    cases e : (argS vs ds os)[j]? with
    | none => rw [e] at h; cases h
    | some c =>
      rw [e] at h
      obtain ⟨v', d', o', rfl, h1, h2, h3⟩ := argS_at.mp e
      cases h
      exact ⟨h1, h2, h3⟩
  · intro ⟨h1, h2, h3⟩
    rw [argS_at.mpr ⟨v, d, o, rfl, h1, h2, h3⟩]
    rfl
/-- the arguments as they stand in the caller -/
structure AOk (cl : Str → Addr) (F : SetA) (H : Hp) (S : List (Option Cell)) (qs : List Arg) (vs : List V) (io : List Ow) (ds : List D) : Prop where
  l1 : vs.length = qs.length
  l2 : io.length = qs.length
  l3 : ds.length = qs.length
  dat : ∀ (j : Nat) d' o' v o d, qs[j]? = some (.dat d' o') → vs[j]? = some v → io[j]? = some o → ds[j]? = some d → o = .sh ∧ Rs cl F H d v
  slot : ∀ (j : Nat) i v o d, qs[j]? = some (.slot i) → vs[j]? = some v → io[j]? = some o → ds[j]? = some d → S[i]? = some (some (v, d, o))
theorem argD_at : ∀ {qs : List Arg} {io : List Ow} {ds : List D}, argD ρ qs io = some ds → io.length = qs.length ∧ ds.length = qs.length ∧ (∀ (j : Nat) d' o' o d, qs[j]? = some (.dat d' o') → io[j]? = some o → ds[j]? = some d → o = .sh ∧ d = d') ∧
    ∀ (j : Nat) i o d, qs[j]? = some (.slot i) → io[j]? = some o → ds[j]? = some d → ρ[i]? = some (some (d, o))
  | [], [], ds, e => by
    cases e
    exact ⟨rfl, rfl, fun j _ _ _ _ h => by simp at h, fun j _ _ _ h => by simp at h⟩
  | [], _ :: _, ds, e => by cases e
  | .dat d0 o0 :: qs, [], ds, e => by cases e
  | .slot _ :: qs, [], ds, e => by cases e
  | .dat d0 o0 :: qs, o1 :: io, ds, e => by
    cases o1 with
    | sh =>
      have e : (argD ρ qs io).map (d0 :: ·) = some ds := e
      cases q : argD ρ qs io with
      | none => rw [q] at e; cases e
      | some ds' =>
        rw [q] at e
        cases e
        obtain ⟨h1, h2, h3, h4⟩ := argD_at q
        refine ⟨by simp [h1], by simp [h2], fun j d' o' o d e1 e2 e3 => ?_, fun j i o d e1 e2 e3 => ?_⟩
        · cases j with
          | zero => cases e1; cases e2; cases e3; exact ⟨rfl, rfl⟩
          | succ j => exact h3 j d' o' o d e1 e2 e3
        · cases j with
          | zero => cases e1
          | succ j => exact h4 j i o d e1 e2 e3
    | own _ => cases e
    | ownK _ _ _ => cases e
  | .slot i0 :: qs, o1 :: io, ds, e => by
    have e : (match ρ[i0]? with | some (some (d, o')) => if o' = o1 ∧ o1 ≠ .sh then (argD ρ qs io).map (d :: ·) else none | _ => none) = some ds := by
      cases o1 <;> exact e
    split at e
    · rename_i d0 o' e0
      split at e
      · rename_i ho
        cases q : argD ρ qs io with
        | none => rw [q] at e; cases e
        | some ds' =>
          rw [q] at e
          cases e
          obtain ⟨h1, h2, h3, h4⟩ := argD_at q
          refine ⟨by simp [h1], by simp [h2], fun j d' o' o d e1 e2 e3 => ?_, fun j i o d e1 e2 e3 => ?_⟩
          · cases j with
            | zero => cases e1
            | succ j => exact h3 j d' o' o d e1 e2 e3
          · cases j with
            | zero => cases e1; cases e2; cases e3; rw [e0, ho.1]
            | succ j => exact h4 j i o d e1 e2 e3
      · cases e
    · cases e
theorem fit_at {vs : List V} {xs : List Arg} (h : Fit σ vs xs) : vs.length = xs.length ∧ (∀ (j : Nat) d o v, xs[j]? = some (.dat d o) → vs[j]? = some v → (v, d, o) ∈ cellsOf vs xs) ∧ ∀ (j : Nat) i v, xs[j]? = some (.slot i) → vs[j]? = some v → σ[i]? = some (some v) := by
  induction vs generalizing xs with
  | nil =>
    cases xs with
    | nil => exact ⟨rfl, fun j _ _ _ h => by simp at h, fun j _ _ h => by simp at h⟩
    | cons x xs => cases x <;> exact h.elim
  | cons v vs ih =>
    cases xs with
    | nil => exact h.elim
    | cons x xs =>
      cases x with
      | dat d o =>
        obtain ⟨h1, h2, h3⟩ := ih (xs := xs) h
        refine ⟨by simp [h1], fun j d' o' v' e1 e2 => ?_, fun j i v' e1 e2 => ?_⟩
        · cases j with
          | zero => cases e1; cases e2; exact List.mem_cons_self
          | succ j => exact List.mem_cons_of_mem _ (h2 j d' o' v' e1 e2)
        · cases j with
          | zero => cases e1
          | succ j => exact h3 j i v' e1 e2
      | slot i =>
        obtain ⟨h0, h⟩ := (h : σ[i]? = some (some v) ∧ Fit σ vs xs)
        obtain ⟨h1, h2, h3⟩ := ih (xs := xs) h
        refine ⟨by simp [h1], fun j d' o' v' e1 e2 => ?_, fun j i' v' e1 e2 => ?_⟩
        · cases j with
          | zero => cases e1
          | succ j => exact h2 j d' o' v' e1 e2
        · cases j with
          | zero => cases e1; cases e2; exact h0
          | succ j => exact h3 j i' v' e1 e2
theorem pick_at {α β : Type} : ∀ {plan : List Nat} {xs : List α} {vs : List β} {qs : List α}, xs.length = vs.length → pickA plan xs = some qs → ∃ ws, pickA plan vs = some ws ∧ ws.length = qs.length ∧ ∀ (j : Nat) q w, qs[j]? = some q → ws[j]? = some w → ∃ n : Nat, xs[n]? = some q ∧ vs[n]? = some w
  | [], xs, vs, qs, l, e => by
    cases e
    exact ⟨[], rfl, rfl, fun j _ _ h => by simp at h⟩
  | n :: plan, xs, vs, qs, l, e => by
    unfold pickA at e ⊢
    rw [List.mapM_cons] at e ⊢
    cases q1 : xs[n]? with
    | none => rw [q1] at e; cases e
    | some x =>
      rw [q1] at e
      have hn : n < vs.length := by have := (List.getElem?_eq_some_iff.mp q1).1; omega
      cases q2 : plan.mapM (fun j => xs[j]?) with
      | none => rw [q2] at e; cases e
      | some qs' =>
        rw [q2] at e
        cases e
        obtain ⟨ws, h3, h4, h5⟩ := pick_at (plan := plan) (vs := vs) l q2
        have h3' : plan.mapM (fun j => vs[j]?) = some ws := h3
        refine ⟨vs[n] :: ws, ?_, by simp [h4], fun j q w e1 e2 => ?_⟩
        · rw [List.getElem?_eq_getElem hn, h3']; rfl
        · cases j with
          | zero => cases e1; cases e2; exact ⟨n, q1, List.getElem?_eq_getElem hn⟩
          | succ j => exact h5 j q w e1 e2

/-! ### what comes back -/
def putS (S : List (Option Cell)) : List Arg → List V → List Ow → List D → List (Option Cell)
  | .slot i :: ps, v :: vs, o :: os, d :: ds => putS (S.set i (some (v, d, o))) ps vs os ds
  | .dat _ _ :: ps, _ :: vs, _ :: os, _ :: ds => putS S ps vs os ds
  | _, _, _, _ => S
theorem putS_ne : ∀ {qs : List Arg} {vs : List V} {os : List Ow} {ds : List D} {S : List (Option Cell)} {i : Nat}, i ∉ slotsOf qs → (putS S qs vs os ds)[i]? = S[i]?
  | [], vs, os, ds, S, i, h => by unfold putS; rfl
  | .slot k :: qs, vs, os, ds, S, i, h => by
    have h1 : i ≠ k ∧ i ∉ slotsOf qs := by
      have h : i ∉ k :: slotsOf qs := h
      simpa using h
    match vs, os, ds with
    | v :: vs, o :: os, d :: ds =>
      show (putS (S.set k (some (v, d, o))) qs vs os ds)[i]? = _
      rw [putS_ne h1.2, List.getElem?_set_ne (Ne.symm h1.1)]
    | [], _, _ => rfl
    | _ :: _, [], _ => rfl
    | _ :: _, _ :: _, [] => rfl
  | .dat _ _ :: qs, vs, os, ds, S, i, h => by
    have h1 : i ∉ slotsOf qs := h
    match vs, os, ds with
    | v :: vs, o :: os, d :: ds => exact putS_ne (qs := qs) h1
    | [], _, _ => rfl
    | _ :: _, [], _ => rfl
    | _ :: _, _ :: _, [] => rfl
theorem mem_slots : ∀ {qs : List Arg} {i : Nat}, i ∈ slotsOf qs ↔ ∃ j : Nat, qs[j]? = some (Arg.slot i)
  | [], i => by simp [slotsOf]
  | .slot k :: qs, i => by
    show i ∈ k :: slotsOf qs ↔ _
    rw [List.mem_cons, mem_slots (qs := qs)]
    constructor
    · rintro (rfl | ⟨j, e⟩)
      · exact ⟨0, rfl⟩
      · exact ⟨j + 1, e⟩
    · rintro ⟨j, e⟩
      cases j with
      | zero => cases e; exact .inl rfl
      | succ j => exact .inr ⟨j, e⟩
  | .dat _ _ :: qs, i => by
    show i ∈ slotsOf qs ↔ _
    rw [mem_slots (qs := qs)]
    constructor
    · rintro ⟨j, e⟩; exact ⟨j + 1, e⟩
    · rintro ⟨j, e⟩
      cases j with
      | zero => cases e
      | succ j => exact ⟨j, e⟩
theorem putS_at : ∀ {qs : List Arg} {vs : List V} {os : List Ow} {ds : List D} {S : List (Option Cell)} {i j : Nat} {v : V} {o : Ow} {d : D}, (slotsOf qs).Nodup → vs.length = qs.length → os.length = qs.length → ds.length = qs.length → (∀ i ∈ slotsOf qs, i < S.length) →
    qs[j]? = some (.slot i) → vs[j]? = some v → os[j]? = some o → ds[j]? = some d → (putS S qs vs os ds)[i]? = some (some (v, d, o))
  | [], _, _, _, _, _, _, _, _, _, _, _, _, _, _, e, _, _, _ => by simp at e
  | q :: qs, [], _, _, _, _, _, _, _, _, _, l, _, _, _, _, _, _, _ => by simp at l
  | q :: qs, _ :: _, [], _, _, _, _, _, _, _, _, _, l, _, _, _, _, _, _ => by simp at l
  | q :: qs, _ :: _, _ :: _, [], _, _, _, _, _, _, _, _, _, l, _, _, _, _, _ => by simp at l
  | .slot k :: qs, v0 :: vs, o0 :: os, d0 :: ds, S, i, j, v, o, d, nd, l1, l2, l3, hl, e1, e2, e3, e4 => by
    obtain ⟨n1, n2⟩ := List.nodup_cons.mp (show (k :: slotsOf qs).Nodup from nd)
    show (putS (S.set k (some (v0, d0, o0))) qs vs os ds)[i]? = _
    cases j with
    | zero =>
      cases e1; cases e2; cases e3; cases e4
      rw [putS_ne n1, List.getElem?_set_self (hl k (List.mem_cons_self (l := slotsOf qs)))]
    | succ j => exact putS_at n2 (by simpa using l1) (by simpa using l2) (by simpa using l3) (fun i hi => by simpa using hl i (List.mem_cons_of_mem (l := slotsOf qs) k hi)) e1 e2 e3 e4
  | .dat a c :: qs, v0 :: vs, o0 :: os, d0 :: ds, S, i, j, v, o, d, nd, l1, l2, l3, hl, e1, e2, e3, e4 => by
    cases j with
    | zero => cases e1
    | succ j => exact putS_at (qs := qs) (S := S) nd (by simpa using l1) (by simpa using l2) (by simpa using l3) hl e1 e2 e3 e4
theorem putS_slots : ∀ {qs : List Arg} {vs : List V} {os : List Ow} {ds : List D} {S : List (Option Cell)} {ρ : DEnv}, (slotsOf qs).Nodup → Slots σ ρ S → vs.length = qs.length → (∀ (j : Nat) i v, qs[j]? = some (.slot i) → vs[j]? = some v → ∃ d o, S[i]? = some (some (v, d, o))) →
    Slots σ (putIo ρ qs os ds) (putS S qs vs os ds)
  | [], vs, os, ds, S, ρ, _, s, _, _ => by unfold putS putIo; exact s
  | q :: qs, [], _, _, _, _, _, _, l, _ => by simp at l
  | .slot k :: qs, v0 :: vs, os, ds, S, ρ, nd, s, l, h => by
    obtain ⟨n1, n2⟩ := List.nodup_cons.mp (show (k :: slotsOf qs).Nodup from nd)
    match os, ds with
    | o0 :: os, d0 :: ds =>
      obtain ⟨d1, o1, e⟩ := h 0 k v0 rfl rfl
      refine putS_slots (S := S.set k (some (v0, d0, o0))) n2 (s.put e d0 o0) (by simpa using l) fun j i v e1 e2 => ?_
      obtain ⟨d2, o2, e3⟩ := h (j + 1) i v e1 e2
      refine ⟨d2, o2, ?_⟩
      rw [List.getElem?_set_ne]
      · exact e3
      · rintro rfl
        exact n1 (mem_slots.mpr ⟨j, e1⟩)
    | [], _ => exact s
    | _ :: _, [] => exact s
  | .dat a c :: qs, v0 :: vs, os, ds, S, ρ, nd, s, l, h => by
    match os, ds with
    | o0 :: os, d0 :: ds => exact putS_slots (qs := qs) nd s (by simpa using l) fun j i v e1 e2 => h (j + 1) i v e1 e2
    | [], _ => exact s
    | _ :: _, [] => exact s
theorem nodup_slot : ∀ {qs : List Arg} {i j k : Nat}, (slotsOf qs).Nodup → qs[j]? = some (.slot i) → qs[k]? = some (.slot i) → j = k
  | [], _, j, _, _, e, _ => by simp at e
  | .slot a :: qs, i, j, k, nd, e1, e2 => by
    obtain ⟨n1, n2⟩ := List.nodup_cons.mp (show (a :: slotsOf qs).Nodup from nd)
    cases j with
    | zero =>
      cases e1
      cases k with
      | zero => rfl
      | succ k => exact absurd (mem_slots.mpr ⟨k, e2⟩) n1
    | succ j =>
      cases k with
      | zero => cases e2; exact absurd (mem_slots.mpr ⟨j, e1⟩) n1
      | succ k => exact congrArg Nat.succ (nodup_slot n2 e1 e2)
  | .dat _ _ :: qs, i, j, k, nd, e1, e2 => by
    cases j with
    | zero => cases e1
    | succ j =>
      cases k with
      | zero => cases e2
      | succ k => exact congrArg Nat.succ (nodup_slot (qs := qs) nd e1 e2)

theorem Rst.frozen {vs : List V} {xs : List Arg} (R : Rst cl b σ H ρ (ts ++ cellsOf vs xs)) (ft : Fit σ vs xs) : ∃ S F fs, Slots σ ρ S ∧ Wst cl b H (cells S (ts ++ (cellsOf vs xs).map shC)) F fs ∧ ∀ (j : Nat) d o v, xs[j]? = some (.dat d o) → vs[j]? = some v → Rs cl F H d v := by
  obtain ⟨S, F, fs, sl, W⟩ := R.freeze
  refine ⟨S, F, fs, sl, W, fun j d o v e1 e2 => ?_⟩
  have m := (fit_at ft).2.1 j d o v e1 e2
  obtain ⟨k, hk⟩ := List.getElem?_of_mem m
  refine W.sh (i := .inr (ts.length + k)) ?_
  show (ts ++ (cellsOf vs xs).map shC)[ts.length + k]? = _
  rw [List.getElem?_append_right (Nat.le_add_right _ _), Nat.add_sub_cancel_left, List.getElem?_map, hk]
  rfl
/-- what the callee gets: its own world -/
theorem enter {S : List (Option Cell)} {F : SetA} {fs : Sum Nat Nat → SetA} {us : List Cell} {qs : List Arg} {vs : List V} {io : List Ow} {ds : List D} (W : Wst cl b H (cells S us) F fs) (A : AOk cl F H S qs vs io ds) (nd : (slotsOf qs).Nodup) :
    ∃ fa : Sum Nat Nat → SetA, (∀ x, (∃ p, fa p x) → ∃ i, i ∈ slotsOf qs ∧ fs (.inl i) x) ∧ Wst cl (handB H F fa) H (cells (argS vs ds io) []) F fa := by
  let fa : Sum Nat Nat → SetA := fun p x => match p with
    | .inl j => ∃ i, qs[j]? = some (.slot i) ∧ fs (.inl i) x
    | .inr _ => False
  have has : ∀ {j : Nat} {q : Arg}, qs[j]? = some q → ∃ v o d, vs[j]? = some v ∧ io[j]? = some o ∧ ds[j]? = some d := fun {j q} e => by
    have hj := (List.getElem?_eq_some_iff.mp e).1
    exact ⟨_, _, _, List.getElem?_eq_getElem (by rw [A.l1]; exact hj), List.getElem?_eq_getElem (by rw [A.l2]; exact hj), List.getElem?_eq_getElem (by rw [A.l3]; exact hj)⟩
  refine ⟨fa, ?_, ?_⟩
  · rintro x ⟨p, h⟩
    cases p with
    | inl j => obtain ⟨i, e, h⟩ := h; exact ⟨i, mem_slots.mpr ⟨j, e⟩, h⟩
    | inr j => exact h.elim
  · refine ⟨fun p v d o e => ?_, fun p x h => ?_, fun p q x h1 h2 => ?_, fun p x h => ?_, W.aF, fun a o e _ => e, fun _ h => h, fun _ h => .inl h, fun p x h => .inl ⟨p, h⟩, fun x ⟨p, h⟩ => ?_⟩
    · cases p with
      | inr j => cases e
      | inl j =>
        obtain ⟨e1, e2, e3⟩ := cells_arg.mp e
        have hj : j < qs.length := by have := (List.getElem?_eq_some_iff.mp e1).1; rw [A.l1] at this; exact this
        have eq := List.getElem?_eq_getElem hj
        cases hq : qs[j] with
        | dat d' o' =>
          rw [hq] at eq
          obtain ⟨rfl, r⟩ := A.dat j d' o' v o d eq e1 e3 e2
          exact (Rp.sh_iff cl).mpr ⟨r, fun x ⟨i, z, _⟩ => by rw [eq] at z; cases z⟩
        | slot i =>
          rw [hq] at eq
          have r := W.rp (.inl i) v d o (cells_at (A.slot j i v o d eq e1 e3 e2))
          have ef : fa (.inl j) = fs (.inl i) := funext fun x => propext ⟨fun ⟨i', z, h⟩ => by rw [eq] at z; cases z; exact h, fun h => ⟨i, eq, h⟩⟩
          rw [ef]; exact r
    · cases p with
      | inr j => exact h.elim
      | inl j =>
        obtain ⟨i, e, h⟩ := h
        obtain ⟨v, o, d, e1, e2, e3⟩ := has e
        exact ⟨_, cells_arg.mpr ⟨e1, e3, e2⟩⟩
    · cases p with
      | inr j => exact h1.elim
      | inl j =>
        cases q with
        | inr k => exact h2.elim
        | inl k =>
          obtain ⟨i, e1, h1⟩ := h1
          obtain ⟨i', e2, h2⟩ := h2
          have := Sum.inl.inj (W.dj _ _ x h1 h2)
          subst this
          rw [nodup_slot nd e1 e2]
    · cases p with
      | inr j => exact h.elim
      | inl j => obtain ⟨i, e, h⟩ := h; exact W.df _ x h
    · cases p with
      | inr j => exact h.elim
      | inl j => obtain ⟨i, e, h⟩ := h; exact W.df _ x h
/-- what the callee leaves: back in the caller -/
theorem leave {S : List (Option Cell)} {F F' : SetA} {fs fa fb : Sum Nat Nat → SetA} {us us' : List Cell} {qs : List Arg} {vs : List V} {io : List Ow} {ds outs : List D} (sl : Slots σ ρ S) (W : Wst cl b H (cells S (ts ++ us)) F fs) (A : AOk cl F H S qs vs io ds) (nd : (slotsOf qs).Nodup)
    (hfa : ∀ x, (∃ p, fa p x) → ∃ i, i ∈ slotsOf qs ∧ fs (.inl i) x) (lo : outs.length = ds.length) (W' : Wst cl (handB H F fa) H' (cells (argS vs outs io) us') F' fb) : ∃ S' fs', Slots σ (putIo ρ qs io outs) S' ∧ Wst cl b H' (cells S' (ts ++ us')) F' fs' := by
  have inS : ∀ i ∈ slotsOf qs, i < S.length := fun i hi => by
    obtain ⟨j, e⟩ := mem_slots.mp hi
    have hj := (List.getElem?_eq_some_iff.mp e).1
    have := A.slot j i _ _ _ e (List.getElem?_eq_getElem (by rw [A.l1]; exact hj)) (List.getElem?_eq_getElem (by rw [A.l2]; exact hj)) (List.getElem?_eq_getElem (by rw [A.l3]; exact hj))
    exact (List.getElem?_eq_some_iff.mp this).1
  have sl' : Slots σ (putIo ρ qs io outs) (putS S qs vs io outs) := putS_slots nd sl A.l1 fun j i v e1 e2 => by
    have hj := (List.getElem?_eq_some_iff.mp e1).1
    exact ⟨_, _, A.slot j i v _ _ e1 e2 (List.getElem?_eq_getElem (by rw [A.l2]; exact hj)) (List.getElem?_eq_getElem (by rw [A.l3]; exact hj))⟩
  let g : Sum Nat Nat → SetA := fun p x => match p with
    | .inl i => ∃ j : Nat, qs[j]? = some (.slot i) ∧ fb (.inl j) x
    | .inr k => fb (.inr k) x
  have held : ∀ x, (∃ p, fa p x) → Held fs (fun i => i ∈ slotsOf qs) ts.length x := fun x h => by
    obtain ⟨i, h1, h2⟩ := hfa x h
    exact .inl ⟨i, h1, h2⟩
  have new : ∀ p x, fb p x → (Held fs (fun i => i ∈ slotsOf qs) ts.length x ∨ H x = none) ∧ ¬ F' x := fun p x h => by
    refine ⟨?_, W'.df p x h⟩
    rcases W'.fn p x h with q | q
    · exact .inl (held x q)
    · exact .inr q
  obtain ⟨fs', W2⟩ := W.turn (S' := putS S qs vs io outs) (us' := us') (H' := H') (F' := F') (fun i => i ∈ slotsOf qs) g (fun i hi => putS_ne hi)
    (fun a o e hn => W'.keep a o e fun h => hn (held a h)) (fun a h => W'.F0 a h) (fun a h => by
      rcases W'.Fn a h with q | q | q
      · exact .inl q
      · exact .inr (.inl (held a q))
      · exact .inr (.inr q)) W'.aF
    (fun i v d o hi e => by
      obtain ⟨j, ej⟩ := mem_slots.mp hi
      have hj := (List.getElem?_eq_some_iff.mp ej).1
      have e1 := List.getElem?_eq_getElem (l := vs) (i := j) (by rw [A.l1]; exact hj)
      have e2 := List.getElem?_eq_getElem (l := io) (i := j) (by rw [A.l2]; exact hj)
      have e3 := List.getElem?_eq_getElem (l := outs) (i := j) (by rw [lo, A.l3]; exact hj)
      have z := putS_at (S := S) nd A.l1 A.l2 (lo.trans A.l3) inS ej e1 e2 e3
      rw [z] at e
      cases e
      have r := W'.rp (.inl j) _ _ _ (cells_arg.mpr ⟨e1, e3, e2⟩)
      have ef : g (.inl i) = fb (.inl j) := funext fun x => propext ⟨fun ⟨j', z, h⟩ => by rw [nodup_slot nd ej z]; exact h, fun h => ⟨j, ej, h⟩⟩
      rw [ef]; exact r)
    (fun k v d o e => W'.rp (.inr k) v d o e) (fun i x ⟨j, ej, h⟩ => by
      have hj := (List.getElem?_eq_some_iff.mp ej).1
      exact ⟨_, putS_at (S := S) nd A.l1 A.l2 (lo.trans A.l3) inS ej (List.getElem?_eq_getElem (by rw [A.l1]; exact hj)) (List.getElem?_eq_getElem (by rw [A.l2]; exact hj)) (List.getElem?_eq_getElem (by rw [lo, A.l3]; exact hj))⟩)
    (fun k x h => by
      obtain ⟨c, e⟩ := W'.occ _ x h
      exact (List.getElem?_eq_some_iff.mp (show us'[k]? = some c from e)).1) (fun p x h => by
      cases p with
      | inl i => obtain ⟨j, _, h⟩ := h; exact new _ x h
      | inr k => exact new _ x h) (fun p q x h1 h2 => by
      cases p with
      | inl i =>
        obtain ⟨j, e1, h1⟩ := h1
        cases q with
        | inl i' =>
          obtain ⟨j', e2, h2⟩ := h2
          have := Sum.inl.inj (W'.dj _ _ x h1 h2)
          subst this
          rw [e1] at e2; cases e2; rfl
        | inr k => have := W'.dj _ _ x h1 h2; cases this
      | inr k =>
        cases q with
        | inl i' =>
          obtain ⟨j', e2, h2⟩ := h2
          have := W'.dj _ _ x h1 h2
          cases this
        | inr k' => rw [Sum.inr.inj (W'.dj _ _ x h1 h2)])
  exact ⟨_, fs', sl', W2⟩
theorem Wst.dropT {S : List (Option Cell)} {F : SetA} {fs : Sum Nat Nat → SetA} (W : Wst cl b H (cells S ts) F fs) : ∃ fs', Wst cl b H (cells S []) F fs' := by
  have W : Wst cl b H (cells S ([] ++ ts)) F fs := W
  obtain ⟨fs', W'⟩ := W.turn (S' := S) (us' := []) (H' := H) (F' := F) noJ noG (fun _ _ => rfl) (fun _ _ e _ => e) (fun _ h => h) (fun _ h => .inl h) W.aF (fun _ _ _ _ z => z.elim) (fun _ _ _ _ e => by simp at e) (fun _ _ z => z.elim) (fun _ _ z => z.elim) (fun _ _ z => z.elim) fun _ _ _ z => z.elim
  exact ⟨fs', W'⟩
theorem fit_flat {ds : List D} (h : ds.all D.flat = true) : Fit σ (ds.map D.toV) (ds.map fun d => Arg.dat d .sh) := by
  induction ds with
  | nil => exact trivial
  | cons d ds ih =>
    rw [List.all_cons, Bool.and_eq_true] at h
    exact ih h.2
/-- the call itself -/
theorem call_sp {con : Con} {plan : List Nat} {vs qv : List V} {xs qs : List Arg} {ds : List D} {k : List Arg → DEnv → Prop} {xc : XC} {Q : VK} {W0 : WX} (R : Rst cl b σ H ρ (ts ++ cellsOf vs xs)) (ft : Fit σ vs xs) (hd : con.dfl.all D.flat = true)
    (hp : pickA plan (xs ++ con.dfl.map fun d => .dat d .sh) = some qs) (hv : pickA plan (vs ++ con.dfl.map D.toV) = some qv) (ha : argD ρ qs con.io = some ds) (nd : (slotsOf qs).Nodup) (pre : con.pre ds)
    (post : ∀ r ro outs, outs.length = ds.length → con.post ds r ro outs → k [.dat r ro] (putIo ρ qs con.io outs)) (exc : ∀ e outs, outs.length = ds.length → con.exc ds e outs → xc e (putIo ρ qs con.io outs)) (x : Xk cl b σ W0 xc)
    (fin : ∀ xs ρ', k xs ρ' → ∀ v H', Fit σ [v] xs → Rst cl b σ H' ρ' (ts ++ cellsOf [v] xs) → Q v H') : spD cl con qv H Q fun c d H' => W0 c d σ H' := by
  obtain ⟨S, F, fs, sl, W, rd⟩ := R.frozen ft
  obtain ⟨a1, a2, a3, a4⟩ := argD_at ha
  have ft2 := Fit.append ft (fit_flat (σ := σ) hd)
  obtain ⟨f1, f2, f3⟩ := fit_at ft2
  obtain ⟨ws, e1, l1, pk⟩ := pick_at (vs := vs ++ con.dfl.map D.toV) f1.symm hp
  rw [hv] at e1; cases e1
  have A : AOk cl F H S qs qv con.io ds := by
    refine ⟨l1, a1, a2, fun j d' o' v o d q1 q2 q3 q4 => ?_, fun j i v o d q1 q2 q3 q4 => ?_⟩
    · obtain ⟨h1, h2⟩ := a3 j d' o' o d q1 q3 q4
      refine ⟨h1, ?_⟩
      subst h2
      obtain ⟨n, n1, n2⟩ := pk j _ _ q1 q2
      by_cases hn : n < xs.length
      · rw [List.getElem?_append_left hn] at n1
        rw [List.getElem?_append_left (by rw [(fit_at ft).1]; exact hn)] at n2
        exact rd n d o' v n1 n2
      · rw [List.getElem?_append_right (by omega)] at n1
        rw [List.getElem?_append_right (by rw [(fit_at ft).1]; omega), (fit_at ft).1] at n2
        rw [List.getElem?_map] at n1 n2
        cases e : con.dfl[n - xs.length]? with
        | none => rw [e] at n1; cases n1
        | some d1 =>
          rw [e] at n1 n2
          cases n1; cases n2
          exact Rs.of_flat cl (List.all_eq_true.mp hd _ (List.mem_of_getElem? e))
    · have h1 := a4 j i o d q1 q3 q4
      obtain ⟨v', h2, h3⟩ := sl.get h1
      obtain ⟨n, n1, n2⟩ := pk j _ _ q1 q2
      have h4 := f3 n i v n1 n2
      rw [h3] at h4
      cases h4
      exact h2
  obtain ⟨fa, hfa, Wa⟩ := enter W A nd
  refine ⟨ds, F, fa, by rw [l1, a1], by rw [a2, a1], Wa, pre, fun r ro outs v H' F' fb lo pp W' => ?_, fun e outs c d H' F' fb lo pp W' ex => ?_⟩
  · obtain ⟨S', fs', sl', W2⟩ := leave sl W A nd hfa lo W'
    exact fin _ _ (post r ro outs lo pp) v H' trivial ⟨S', F', fs', sl', W2⟩
  · obtain ⟨S', fs', sl', W2⟩ := leave (us' := []) sl W A nd hfa lo W'
    rw [List.append_nil] at W2
    obtain ⟨fs2, W3⟩ := W2.dropT
    exact x e _ (exc e outs lo pp) S' F' fs2 H' c d sl' W3 ex
theorem sne_call {f : Str} {as kv : M} {sh : Shp} (ha : SnE T cl N lv as) (hk : SnK T cl N lv kv) : SnE T cl N lv (.call f as kv sh) := by
  have inv : ∀ {sc e}, mE N (.call f as kv sh) sc e = true → ∃ q es kws p, e = .Call (.Name f q) es kws p ∧ gloB sc f = true ∧ okN f = true ∧ kws.map (·.arg) = sh.ks.map some ∧ (es.isEmpty && kws.isEmpty) = false ∧ mA N as sc es = true ∧ mA N kv sc (kws.map (·.value)) = true ∧ es.length = sh.n := fun {sc e} h => by
    cases e with
    | Call g es kws p =>
      cases g with
      | Name x q =>
        obtain ⟨h, h8⟩ := ba (show (decide (x = f) && gloB sc x && okN x && decide (kws.map (·.arg) = sh.ks.map some) && !(es.isEmpty && kws.isEmpty) && mA N as sc es && mA N kv sc (kws.map (·.value)) && decide (es.length = sh.n)) = true from h)
        obtain ⟨h, h7⟩ := ba h
        obtain ⟨h, h6⟩ := ba h
        obtain ⟨h, h5⟩ := ba h
        obtain ⟨h, h4⟩ := ba h
        obtain ⟨h, h3⟩ := ba h
        obtain ⟨h1, h2⟩ := ba h
        cases dec_eq h1
        exact ⟨q, es, kws, p, rfl, h2, h3, dec_eq h4, by simpa only [Bool.not_eq_true'] using h5, h6, h7, dec_eq h8⟩
      | _ => cases h
    | _ => cases h
  have key : ∀ {sc X W}, Gd T cl W X N sc lv → ∀ b e, mE N (.call f as kv sh) sc e = true → PE X e (tE cl T b W (.call f as kv sh)) := fun {sc X W} G b e h => by
    obtain ⟨q, es, kws, p, rfl, h1, h2, h3, h4, h5, h6, h7⟩ := inv h
    cases ef : T.fn f with
    | none => exact ⟨fun pins s σ H Q I ⟨ρ, ts, k, xc, R, w, x, fin⟩ => by
        have w' : (match T.fn f with | some con => _ | none => False) := w
        rw [ef] at w'; exact w'.elim⟩
    | some con =>
      obtain ⟨a, fd, ps, dvs, g1, g2, g3, g4, g5, g6⟩ := G.fn f con ef
      by_cases hsh : sh ∈ con.shp
      · have fin0 : ∀ {σ H Q}, tE cl T b W (.call f as kv sh) σ H Q → tEA cl T b W as σ H fun vs H1 => tEA cl T b W kv σ H1 fun ks H2 => ∃ qs E, vs.length = sh.n ∧ ks.length = sh.ks.length ∧ pickA sh.plan (vs ++ ks ++ con.dfl.map D.toV) = some qs ∧ spD cl con qs H2 Q E ∧ ∀ c d H', E c d H' → W c d σ H' := fun {σ H Q} ⟨ρ, ts, k, xc, R, w, x, fin⟩ => by
          have w' : (match T.fn f with | some con => _ | none => False) := w
          rw [ef] at w'
          refine ⟨ρ, ts, _, xc, R, w'.2, x, fun p1 ρ0 hk1 vs H1 ft1 R1 => ⟨ρ0, _, _, xc, R1, hk1, x, fun p2 ρ1 hk2 ks H2 ft2 R2 => ?_⟩⟩
          obtain ⟨l1, l2, hk2⟩ := hk2
          have R3 : Rst cl b σ H2 ρ1 (ts ++ cellsOf (vs ++ ks) (p1 ++ p2)) := by rw [cellsOf_append ft1, ← List.append_assoc]; exact R2
          have ft3 := Fit.append ft1 ft2
          split at hk2
          · rename_i qs hp
            split at hk2
            · rename_i ds hd
              obtain ⟨nd, pre, post, exc⟩ := hk2
              obtain ⟨qv, e1, _, _⟩ := pick_at (vs := vs ++ ks ++ con.dfl.map D.toV) (fit_at (Fit.append ft3 (fit_flat (σ := σ) g4))).1.symm hp
              exact ⟨qv, _, by rw [(fit_at ft1).1]; exact l1, by rw [(fit_at ft2).1]; exact l2, e1, call_sp R3 ft3 g4 hp e1 hd nd pre post exc x fin, fun _ _ _ z => z⟩
            · exact hk2.elim
          · exact hk2.elim
        cases es with
        | nil =>
          refine PE.of (pe_callG0 g6 G.lev G.gd (glo_of G.toGq h1) g1 g2 (g5 sh hsh) g3 G.tk (hk G b kws h6) (okN_of h2).1 h3) fun σ H Q ⟨ρ, ts, k, xc, R, w, x, fin⟩ => ?_
          cases as with
          | nil =>
            have w' : (match T.fn f with | some con => _ | none => False) := w
            rw [ef] at w'
            refine ⟨ρ, ts, _, xc, R, w'.2, x, fun p2 ρ1 hk2 ks H2 ft2 R2 => ?_⟩
            obtain ⟨l1, l2, hk2⟩ := hk2
            split at hk2
            · rename_i qs hp
              split at hk2
              · rename_i ds hd
                obtain ⟨nd, pre, post, exc⟩ := hk2
                rw [List.nil_append] at hp
                obtain ⟨qv, e1, _, _⟩ := pick_at (vs := ks ++ con.dfl.map D.toV) (fit_at (Fit.append ft2 (fit_flat (σ := σ) g4))).1.symm hp
                exact ⟨qv, _, l1, by rw [(fit_at ft2).1]; exact l2, e1, call_sp R2 ft2 g4 hp e1 hd nd pre post exc x fin, fun _ _ _ z => z⟩
              · exact hk2.elim
            · exact hk2.elim
          | _ => cases h5
        | cons e es => exact PE.of (pe_callG g6 G.lev G.gd (glo_of G.toGq h1) g1 g2 (g5 sh hsh) g3 G.tk (ha.a G b (e :: es) h5) (hk G b kws h6) (okN_of h2).1 h3 (mA_plain h5)) fun σ H Q z => fin0 z
      · exact ⟨fun pins s σ H Q I ⟨ρ, ts, k, xc, R, w, x, fin⟩ => by
          have w' : (match T.fn f with | some con => _ | none => False) := w
          rw [ef] at w'
          exact absurd w'.1 hsh⟩
  exact ⟨key, fun G b e _ h => pt_e (key G b e h) (by obtain ⟨_, _, _, _, rfl, _⟩ := inv h; rfl), no_eA fun _ _ => rfl⟩
end
end DL
/-! DL16: displays of dicts. -/
namespace DL
open PySem PySem.Spec PyProof.Rows L2
section
variable {T : Tab} {cl : Str → Addr} {N : List Str} {lv : Nat} {b : Bs} {σ : L2.St} {H H' : Hp} {ρ : DEnv} {ts us : List Cell} {W : WX} {X : Cx} {sc : Scope}
/-- one thing at hand is let go -/
theorem Rst.skip1 {c : Cell} (R : Rst cl b σ H ρ (ts ++ c :: us)) : Rst cl b σ H ρ (ts ++ us) := by
  obtain ⟨S, F, fs, s, W⟩ := R
  let g : Sum Nat Nat → SetA := fun p x => match p with
    | .inl _ => False
    | .inr k => fs (.inr (ts.length + (k + 1))) x
  obtain ⟨fs', W'⟩ := W.turn (S' := S) (us' := us) (H' := H) (F' := F) noJ g (fun _ _ => rfl) (fun _ _ e _ => e) (fun _ h => h) (fun _ h => .inl h) W.aF (fun _ _ _ _ z => z.elim) (fun k v d o e => W.temp (us := c :: us) (k := k + 1) e) (fun _ _ z => z.elim) (fun k x z => by
      obtain ⟨c', e⟩ := W.occ _ x z
      have e' : (ts ++ c :: us)[ts.length + (k + 1)]? = some c' := e
      rw [List.getElem?_append_right (Nat.le_add_right _ _), Nat.add_sub_cancel_left, List.getElem?_cons_succ] at e'
      exact (List.getElem?_eq_some_iff.mp e').1) (fun p x z => by
      cases p with
      | inl _ => exact z.elim
      | inr k => exact ⟨.inl (Held.temp (fs := fs) (j := ts.length + (k + 1)) z (Nat.le_add_right _ _)), W.df _ _ z⟩) (fun p q x h1 h2 => by
      cases p with
      | inl _ => exact h1.elim
      | inr k =>
        cases q with
        | inl _ => exact h2.elim
        | inr j => have := Sum.inr.inj (W.dj _ _ x h1 h2); exact congrArg Sum.inr (by omega))
  exact ⟨S, F, fs', s, W'⟩
/-- a new dict, empty -/
theorem Rst.newDic0 (R : Rst cl b σ H ρ ts) {p : Addr} (hp : H p = none) : Rst cl b σ (upd H p (.dK [])) ρ (ts ++ [(.ref p, .dic [], .own .sh)]) := by
  obtain ⟨S, F, fs, s, W⟩ := R
  have up : ∀ a o, H a = some o → upd H p (.dK []) a = some o := fun a o e => by rw [upd_ne (ne_of_none e hp)]; exact e
  let g : Sum Nat Nat → SetA := fun q x => match q with
    | .inl _ => False
    | .inr k => k = 0 ∧ x = p
  rw [← List.append_nil ts] at W
  obtain ⟨fs', W'⟩ := W.turn (S' := S) (us' := [(.ref p, .dic [], .own .sh)]) (H' := upd H p (.dK [])) (F' := F) noJ g (fun _ _ => rfl) (fun a o e _ => up a o e) (fun _ h => h) (fun _ h => .inl h) (fun a h => let ⟨o, e⟩ := W.aF a h; ⟨o, up a o e⟩)
    (fun _ _ _ _ z => z.elim) (fun k v d o e => by
      cases k with
      | zero =>
        cases e
        exact (Rp.nd_iff cl (by simp)).mpr ⟨p, [], fun _ _ => False, rfl, upd_same, ⟨List.nodup_nil, rfl⟩, fun i k d v h => by simp at h, ⟨fun _ _ z => z.elim, fun _ _ _ z => z.elim, fun x => ⟨fun h => .inl h.2, fun h => by
          rcases h with h | ⟨_, h⟩
          · exact ⟨rfl, h⟩
          · exact h.elim⟩⟩⟩
      | succ k => simp at e) (fun _ _ z => z.elim) (fun k x z => by rw [z.1]; simp) (fun q x z => by
      cases q with
      | inl _ => exact z.elim
      | inr k =>
        obtain ⟨_, rfl⟩ := z
        exact ⟨.inr hp, fun hF => by obtain ⟨o, e⟩ := W.aF _ hF; rw [hp] at e; cases e⟩) (fun q q' x h1 h2 => by
      cases q with
      | inl _ => exact h1.elim
      | inr k =>
        cases q' with
        | inl _ => exact h2.elim
        | inr k' => rw [h1.1, h2.1])
  exact ⟨S, F, fs', s, W'⟩
/-- and filled -/
theorem Rst.fillDic {p : Addr} {kvs : List (Key × V)} {ds : List (Key × D)} {o : Ow} (R : Rst cl b σ H ρ (ts ++ (.ref p, .dic [], .own .sh) :: us)) (ho : o ≠ .sh) (nd : (ds.map (·.1)).Nodup) (l : ds.map (·.1) = kvs.map (·.1))
    (hu : ∀ (i : Nat) k d w, ds[i]? = some (k, d) → kvs[i]? = some (k, w) → ∃ oi, us[i]? = some (w, d, oi) ∧ (d.flat = true ∨ o.child k = oi)) (lu : us.length = ds.length) :
    H p = some (.dK []) ∧ Rst cl b σ (upd H p (.dK kvs)) ρ (ts ++ [(.ref p, .dic ds, o)]) := by
  obtain ⟨S, F, fs, s, W⟩ := R
  have r0 : Rp cl F H (.own .sh) (.dic []) (.ref p) (fs (.inr (ts.length + 0))) := W.temp (k := 0) rfl
  obtain ⟨a, ws, f0, e1, e2, ⟨_, lw⟩, _, fam⟩ := Rp.dic (by simp) r0
  cases e1
  have ew : ws = [] := by
    cases ws with
    | nil => rfl
    | cons _ _ => cases lw
  subst ew
  have fp0 : ∀ x, fs (.inr (ts.length + 0)) x ↔ x = p := fun x => by
    rw [fam.iff x]
    exact ⟨fun h => by
      rcases h with h | ⟨i, h⟩
      · exact h
      · exact absurd (fam.lt i x h).1 (by simp), .inl⟩
  refine ⟨e2, ?_⟩
  have up : ∀ a o, a ≠ p → H a = some o → upd H p (.dK kvs) a = some o := fun a o h e => by rw [upd_ne h]; exact e
  let gs : Nat → SetA := fun i x => fs (.inr (ts.length + (i + 1))) x
  have gl : ∀ i x, gs i x → i < us.length := fun i x h => by
    obtain ⟨c, e⟩ := W.occ _ _ h
    have e' : (ts ++ (V.ref p, D.dic [], Ow.own .sh) :: us)[ts.length + (i + 1)]? = some c := e
    rw [List.getElem?_append_right (Nat.le_add_right _ _), Nat.add_sub_cancel_left, List.getElem?_cons_succ] at e'
    exact (List.getElem?_eq_some_iff.mp e').1
  have gp : ∀ i x, gs i x → x ≠ p := fun i x h e => by
    have := Sum.inr.inj (W.dj _ _ x h ((fp0 x).mpr e))
    omega
  have Fp : ∀ x, F x → x ≠ p := fun x h e => W.df _ x ((fp0 x).mpr e) h
  let g : Sum Nat Nat → SetA := fun q x => match q with
    | .inl _ => False
    | .inr k => k = 0 ∧ (x = p ∨ ∃ i, gs i x)
  have hk : ∀ a u, F a → Rx H a u → Rx (upd H p (.dK kvs)) a u := fun a u ha r => Rx.same (fun o e => up a o (Fp a ha) e) r
  have rpN : Rp cl F (upd H p (.dK kvs)) o (.dic ds) (.ref p) (g (.inr 0)) := by
    refine (Rp.nd_iff cl ho).mpr ⟨p, kvs, fun i x => gs i x ∧ ∃ k d, ds[i]? = some (k, d) ∧ d.flat = false, rfl, upd_same, ⟨nd, l⟩, fun i k d w h1 h2 => ?_, ⟨fun i x hx => ⟨by rw [← lu]; exact gl i x hx.1, gp i x hx.1⟩, fun i j x hi hj => ?_, fun x => ?_⟩⟩
    · obtain ⟨oi, q, hc⟩ := hu i k d w h1 h2
      have r : Rp cl F H oi d w (gs i) := W.temp (us := (.ref p, .dic [], .own .sh) :: us) (k := i + 1) q
      by_cases hd : d.flat = true
      · obtain ⟨r1, r2⟩ := (Rp.flat hd).mp r
        exact (Rp.flat hd).mpr ⟨r1, fun x hx => r2 x hx.1⟩
      · have z : o.child k = oi := by
          rcases hc with q | q
          · exact absurd q hd
          · exact q
        subst z
        have e : (fun x => gs i x ∧ ∃ k d, ds[i]? = some (k, d) ∧ d.flat = false) = gs i := funext fun x => propext ⟨fun h => h.1, fun h => ⟨h, k, d, h1, by simpa using hd⟩⟩
        show Rp cl F (upd H p (.dK kvs)) (o.child k) d w (fun x => gs i x ∧ ∃ k d, ds[i]? = some (k, d) ∧ d.flat = false)
        rw [e]
        exact Rp.mono cl (fun _ h => h) hk _ (fun a u ha e => up a u (gp i a ha) e) r
    · have := Sum.inr.inj (W.dj _ _ x hi.1 hj.1)
      omega
    · constructor
      · rintro ⟨_, h | ⟨i, h⟩⟩
        · exact .inl h
        · have hi := gl i x h
          rw [lu] at hi
          have e := List.getElem?_eq_getElem hi
          have lk : i < kvs.length := by have := congrArg List.length l; simp at this; omega
          have ek := List.getElem?_eq_getElem lk
          have kk : ds[i].1 = kvs[i].1 := by
            have := congrArg (fun z => z[i]?) l
            simp only [List.getElem?_map, e, ek, Option.map_some, Option.some.injEq] at this
            exact this
          obtain ⟨oi, q, hc⟩ := hu i ds[i].1 ds[i].2 kvs[i].2 e (by rw [ek]; rw [kk])
          by_cases hd : ds[i].2.flat = true
          · have r : Rp cl F H oi ds[i].2 kvs[i].2 (gs i) := W.temp (us := (.ref p, .dic [], .own .sh) :: us) (k := i + 1) q
            exact absurd h (((Rp.flat hd).mp r).2 x)
          · exact .inr ⟨i, h, _, _, e, by simpa using hd⟩
      · rintro (h | ⟨i, h⟩)
        · exact ⟨rfl, .inl h⟩
        · exact ⟨rfl, .inr ⟨i, h.1⟩⟩
  have held : ∀ x, (x = p ∨ ∃ i, gs i x) → Held fs noJ ts.length x := fun x h => by
    rcases h with h | ⟨i, h⟩
    · exact Held.temp ((fp0 x).mpr h) (Nat.le_add_right _ _)
    · exact Held.temp h (Nat.le_add_right _ _)
  obtain ⟨fs', W'⟩ := W.turn (S' := S) (us' := [(.ref p, .dic ds, o)]) (H' := upd H p (.dK kvs)) (F' := F) noJ g (fun _ _ => rfl) (fun a u e hn => up a u (fun z => hn (held a (.inl z))) e) (fun _ h => h) (fun _ h => .inl h) (fun a h => let ⟨u, e⟩ := W.aF a h; ⟨u, up a u (Fp a h) e⟩)
    (fun _ _ _ _ z => z.elim) (fun k v d o e => by
      cases k with
      | zero => cases e; exact rpN
      | succ k => simp at e) (fun _ _ z => z.elim) (fun k x z => by rw [z.1]; simp) (fun q x z => by
      cases q with
      | inl _ => exact z.elim
      | inr k =>
        refine ⟨.inl (held x z.2), ?_⟩
        rcases z.2 with h | ⟨i, h⟩
        · exact fun hF => Fp x hF h
        · exact W.df _ _ h) (fun q q' x h1 h2 => by
      cases q with
      | inl _ => exact h1.elim
      | inr k =>
        cases q' with
        | inl _ => exact h2.elim
        | inr k' => rw [h1.1, h2.1])
  exact ⟨S, F, fs', s, W'⟩

/-! ### the pairs -/
def prs : List V → List (V × V)
  | a :: b :: r => (a, b) :: prs r
  | _ => []
theorem dicOw_ne : ∀ ps : List (Key × Arg), dicOw ps ≠ .sh
  | [] => by simp [dicOw]
  | (k, .dat d o) :: r => by
    unfold dicOw
    split
    · exact dicOw_ne r
    · simp
  | (_, .slot _) :: r => by unfold dicOw; exact dicOw_ne r
theorem dicOw_off : ∀ {ps : List (Key × Arg)} {k : Key}, k ∉ ps.map (·.1) → (dicOw ps).child k = .sh
  | [], k, _ => rfl
  | (k0, .dat d o) :: r, k, h => by
    simp only [List.map_cons, List.mem_cons, not_or] at h
    unfold dicOw
    split
    · exact dicOw_off h.2
    · show (if _ then _ else _) = _
      rw [if_neg (by intro z; exact h.1 z)]
      exact dicOw_off h.2
  | (_, .slot _) :: r, k, h => by
    simp only [List.map_cons, List.mem_cons, not_or] at h
    unfold dicOw
    exact dicOw_off h.2
theorem dicOw_at : ∀ {ps : List (Key × Arg)} {i : Nat} {k : Key} {d : D} {o : Ow}, (ps.map (·.1)).Nodup → ps[i]? = some (k, .dat d o) → d.flat = true ∨ (dicOw ps).child k = o
  | [], _, _, _, _, _, e => by simp at e
  | (k0, a0) :: r, i, k, d, o, nd, e => by
    obtain ⟨n1, n2⟩ := List.nodup_cons.mp (show (k0 :: r.map (·.1)).Nodup from nd)
    cases i with
    | zero =>
      cases e
      by_cases hd : d.flat = true
      · exact .inl hd
      · refine .inr ?_
        unfold dicOw
        by_cases hs : o = .sh
        · rw [if_pos (.inr hs), dicOw_off n1, hs]
        · rw [if_neg (by rintro (z | z); exact hd z; exact hs z)]
          show (if _ then _ else _) = _
          rw [if_pos rfl]
    | succ i =>
      have e : r[i]? = some (k, .dat d o) := e
      have hne : k0 ≠ k := fun z => n1 (z ▸ List.mem_map.mpr ⟨_, List.mem_of_getElem? e, rfl⟩)
      rcases dicOw_at n2 e with q | q
      · exact .inl q
      · refine .inr ?_
        cases a0 with
        | slot _ => unfold dicOw; exact q
        | dat d0 o0 =>
          unfold dicOw
          split
          · exact q
          · show (if _ then _ else _) = _
            rw [if_neg (Ne.symm hne)]
            exact q
theorem pairs_at : ∀ {xs : List Arg} {vs : List V} {ps : List (Key × Arg)} {ds : List (Key × D)} {ts : List Cell}, pairUp xs = some ps → dicD ps = some ds → Fit σ vs xs → Rst cl b σ H ρ (ts ++ cellsOf vs xs) →
    ∃ (kvs : List (Key × V)) (us : List Cell), prs vs = kvs.map (fun kv => (kV kv.1, kv.2)) ∧ ps.map (·.1) = ds.map (·.1) ∧ ds.map (·.1) = kvs.map (·.1) ∧ us.length = ds.length ∧ (∀ (i : Nat) k d w, ds[i]? = some (k, d) → kvs[i]? = some (k, w) → ∃ oi, us[i]? = some (w, d, oi) ∧ ps[i]? = some (k, .dat d oi)) ∧ Rst cl b σ H ρ (ts ++ us)
  | [], vs, ps, ds, ts, e1, e2, ft, R => by
    cases e1; cases e2
    cases vs with
    | cons _ _ => exact ft.elim
    | nil => exact ⟨[], [], rfl, rfl, rfl, rfl, fun i _ _ _ h => by simp at h, R⟩
  | [.dat _ _], _, _, _, _, e1, _, _, _ => by cases e1
  | .slot _ :: _, _, _, _, _, e1, _, _, _ => by cases e1
  | .dat kd ko :: x :: xs, vs, ps, ds, ts, e1, e2, ft, R => by
    have e1 : (match kd.toKey, pairUp xs with | some key, some ps => some ((key, x) :: ps) | _, _ => none) = some ps := e1
    split at e1
    · rename_i key ps' ek ep
      cases e1
      cases x with
      | slot _ => cases e2
      | dat d o =>
        have e2 : (dicD ps').map ((key, d) :: ·) = some ds := e2
        cases q : dicD ps' with
        | none => rw [q] at e2; cases e2
        | some ds' =>
          rw [q] at e2
          cases e2
          match vs, ft, R with
          | [], ft, _ => exact ft.elim
          | [_], ft, _ => exact ft.elim
          | kv :: w :: vs, ft, R =>
            have R : Rst cl b σ H ρ (ts ++ (kv, kd, ko) :: (w, d, o) :: cellsOf vs xs) := R
            have rk := R.readT (k := ts.length) (v := kv) (d := kd) (o := ko) (by simp)
            have hkv := key_v rk ek
            have R2 : Rst cl b σ H ρ ((ts ++ [(w, d, o)]) ++ cellsOf vs xs) := by rw [List.append_assoc]; exact R.skip1
            obtain ⟨kvs, us, h1, h2, h3, h4, h5, h6⟩ := pairs_at (ts := ts ++ [(w, d, o)]) ep q ft R2
            refine ⟨(key, w) :: kvs, (w, d, o) :: us, ?_, ?_, ?_, by simp [h4], fun i k d' w' g1 g2 => ?_, by rw [List.append_assoc] at h6; exact h6⟩
            · show (kv, w) :: prs vs = _
              rw [h1, hkv]; rfl
            · simp [h2]
            · simp [h3]
            · cases i with
              | zero => cases g1; cases g2; exact ⟨o, rfl, rfl⟩
              | succ i => exact h5 i k d' w' g1 g2
    · cases e1
theorem mergeK_nodup : ∀ {more kvs : List (Key × V)}, ((kvs ++ more).map (·.1)).Nodup → mergeK kvs more = kvs ++ more
  | [], kvs, _ => by rw [List.append_nil]; rfl
  | p :: more, kvs, nd => by
    have hn : ∀ q ∈ kvs, q.1 ≠ p.1 := fun q hq e => by
      rw [List.map_append, List.map_cons] at nd
      have := (List.nodup_append.mp nd).2.2
      exact this q.1 (List.mem_map.mpr ⟨q, hq, rfl⟩) p.1 List.mem_cons_self e
    have e : putK kvs p.1 p.2 = kvs ++ [p] := by
      unfold putK
      rw [if_neg]
      simp only [List.any_eq_true, decide_eq_true_eq, not_exists, not_and]
      exact fun q hq z => hn q hq z
    show mergeK (putK kvs p.1 p.2) more = _
    rw [e, mergeK_nodup (by simpa using nd), List.append_assoc]
    rfl
def SnD (T : Tab) (cl : Str → Addr) (N : List Str) (lv : Nat) (m : M) : Prop := ∀ {sc X W}, Gd T cl W X N sc lv → ∀ b (pos : Pos) ks vs, mD N m sc ks vs = true → ks.length = vs.length ∧ ks.all (·.isSome) = true ∧ ∃ trs, PPs X pos ks vs trs ∧
  ∀ σ H Q ρ ts k xc, Rst cl b σ H ρ ts → wE T m ρ k xc → Xk cl b σ W xc → (∀ xs ρ', k xs ρ' → ∀ ws H', Fit σ ws xs → Rst cl b σ H' ρ' (ts ++ cellsOf ws xs) → Q (prs ws) H') → tPairs trs σ H Q
theorem no_eD {m : M} (h : ∀ sc ks vs, mD N m sc ks vs = false) : SnD T cl N lv m := fun {sc X W} _ _ _ ks vs q => by rw [h] at q; cases q
theorem snd_nil : SnD T cl N lv .nil := fun {sc X W} G b pos ks vs h => by
  match ks, vs, h with
  | [], [], _ =>
    refine ⟨rfl, rfl, [], pps_nil, fun σ H Q ρ ts k xc R w x f => f [] ρ w [] H trivial (by rw [show cellsOf [] [] = [] from rfl, List.append_nil]; exact R)⟩
  | [], _ :: _, h => cases h
  | _ :: _, [], h => cases h
  | none :: _, _ :: _, h => cases h
  | some _ :: _, _ :: _, h => cases h
theorem snd_cons {a c r : M} (ha : SnE T cl N lv a) (hc : SnE T cl N lv c) (hr : SnD T cl N lv r) : SnD T cl N lv (.cons a (.cons c r)) := fun {sc X W} G b pos ks vs h => by
  match ks, vs, h with
  | [], [], h => cases h
  | [], _ :: _, h => cases h
  | none :: _, [], h => cases h
  | some _ :: _, [], h => exact absurd h (by unfold mD; simp)
  | none :: _, _ :: _, h => cases h
  | some e :: ks, v :: vs, h =>
    obtain ⟨h1, h2⟩ := ba (show (mE N a sc e && (mE N c sc v && mD N r sc ks vs)) = true from h)
    obtain ⟨h2, h3⟩ := ba h2
    obtain ⟨l, al, trs, pps, fin⟩ := hr G b pos ks vs h3
    refine ⟨by simp [l], by simpa using al, _, pps_cons (ha.e G b e h1) (hc.e G b v h2) pps, fun σ H Q ρ ts k xc R w x f => ?_⟩
    refine ⟨ρ, ts, _, xc, R, w, x, fun xs ρ1 hk v1 H1 ft1 R1 => ?_⟩
    refine ⟨ρ1, ts ++ cellsOf [v1] xs, _, xc, R1, hk.2, x, fun ys ρ2 hk2 v2 H2 ft2 R2 => ?_⟩
    refine fin σ H2 _ ρ2 (ts ++ cellsOf [v1] xs ++ cellsOf [v2] ys) _ xc R2 hk2.2 x fun zs ρ3 hk3 ws H3 ft3 R3 => ?_
    refine f (xs ++ (ys ++ zs)) ρ3 hk3 (v1 :: v2 :: ws) H3 (Fit.append (vs := [v1]) ft1 (Fit.append (vs := [v2]) ft2 ft3)) ?_
    rw [show v1 :: v2 :: ws = [v1] ++ ([v2] ++ ws) from rfl, cellsOf_append ft1, cellsOf_append ft2, ← List.append_assoc, ← List.append_assoc]
    exact R3
theorem sne_dic {kvs : M} (hd : SnD T cl N lv kvs) : SnE T cl N lv (.dic kvs) := by
  have inv : ∀ {sc e}, mE N (.dic kvs) sc e = true → ∃ ks vs p, e = .Dict ks vs p ∧ mD N kvs sc ks vs = true ∧ ks.length ≤ 15 := fun {sc e} h => by
    cases e with
    | Dict ks vs p =>
      obtain ⟨h1, h2⟩ := ba (show (mD N kvs sc ks vs && decide (ks.length ≤ 15)) = true from h)
      exact ⟨ks, vs, p, rfl, h1, of_decide_eq_true h2⟩
    | _ => cases h
  have key : ∀ {sc X W}, Gd T cl W X N sc lv → ∀ b e, mE N (.dic kvs) sc e = true → PE X e (tE cl T b W (.dic kvs)) := fun {sc X W} G b e h => by
    obtain ⟨ks, vs, p, rfl, h1, h2⟩ := inv h
    obtain ⟨l, al, trs, pps, fin⟩ := hd G b p ks vs h1
    have core : ∀ {σ H Q}, tE cl T b W (.dic kvs) σ H Q → tDisp trs σ H Q := fun {σ H Q} ⟨ρ, ts, k, xc, R, w, x, f⟩ a ha => by
      refine fin σ _ _ ρ _ _ xc (R.newDic0 ha) w x fun xs ρ1 hk ws H1 ft R1 => ?_
      split at hk
      · rename_i ps e1
        split at hk
        · rename_i ds e2
          obtain ⟨nd, le, hk⟩ := hk
          obtain ⟨kw, us, q1, q2, q3, q4, q5, R2⟩ := pairs_at e1 e2 ft R1
          rw [List.append_assoc] at R2
          obtain ⟨z1, z2⟩ := Rst.fillDic (o := dicOw ps) R2 (dicOw_ne ps) nd q3 (fun i k d w g1 g2 => by
            obtain ⟨oi, g3, g4⟩ := q5 i k d w g1 g2
            exact ⟨oi, g3, dicOw_at (by rw [q2]; exact nd) g4⟩) q4
          have lk : kw.length = ds.length := by have := congrArg List.length q3; simpa using this.symm
          refine ⟨z1, kw, q1, by omega, ?_⟩
          rw [mergeK_nodup (by rw [List.nil_append, ← q3]; exact nd), List.nil_append]
          exact f _ ρ1 hk _ _ trivial z2
        · exact hk.elim
      · exact hk.elim
    match ks, vs, l with
    | [], [], _ =>
      cases kvs with
      | nil =>
        refine PE.of pe_dnewK fun σ H Q q a ha => ?_
        obtain ⟨ρ, ts, k, xc, R, w, x, f⟩ := q
        have w' : ([] : List Key).Nodup ∧ 0 ≤ 15 ∧ k [.dat (.dic []) (.own .sh)] ρ := w
        exact f _ ρ w'.2.2 _ _ trivial (R.newDic0 ha)
      | cons a r => cases h1
      | _ => cases h1
    | k0 :: ks, vs, l => exact PE.of (pe_disp pps al l (by simp) h2) fun _ _ _ q => core q
  exact ⟨key, fun G b e _ h => pt_e (key G b e h) (by obtain ⟨_, _, _, rfl, _⟩ := inv h; rfl), no_eA fun _ _ => rfl⟩
end
end DL
/-! DL17: what is walked. -/
namespace DL
open PySem PySem.Spec PyProof.Rows L2
section
variable {T : Tab} {cl : Str → Addr} {N : List Str} {lv : Nat} {b : Bs} {σ : L2.St} {H H' : Hp} {ρ : DEnv} {ts us : List Cell} {W : WX} {X : Cx} {sc : Scope}
/-- an iterator over items that nobody may write, while us are at hand -/
def Drawn (cl : Str → Addr) (ts us : List Cell) (items : List D) (J : L2.It) : Prop := ∃ (G : Hp → Prop) (Y : Nat → Hp → V → Hp → Prop), Walk J items.length G Y ∧ ∀ (b : Bs) (σ : L2.St) (H : Hp) (ρ : DEnv) (ts2 : List Cell), Rst cl b σ H ρ (ts ++ us ++ ts2) →
  G H ∧ ∀ i x H', Y i H x H' → H' = H ∧ ∃ d, items[i]? = some d ∧ Rst cl b σ H ρ (ts ++ us ++ ts2 ++ [(x, d, .sh)])
/-- drawn from src -/
def tI (cl : Str → Addr) (T : Tab) (b : Bs) (W : WX) (it : It) (src : M) : TI := fun σ H Q => ∃ (ρ : DEnv) (ts : List Cell) (k : List D → DEnv → Prop) (xc : XC), Rst cl b σ H ρ ts ∧ wE T src ρ (fun xs ρ1 => match datas xs with | some ds => itemsW it ds fun items => k items ρ1 | none => False) xc ∧ Xk cl b σ W xc ∧
  ∀ items ρ1, k items ρ1 → ∀ J H' us, Rst cl b σ H' ρ1 (ts ++ us) → Drawn cl ts us items J → Q J H'
theorem PI.of {tg e : Expr} {t t' : TI} (h : PI X tg e t) (i : ∀ σ H Q, t' σ H Q → t σ H Q) : PI X tg e t' := ⟨fun pins s σ H Q I q => h.run pins s σ H Q I (i σ H Q q)⟩
/-- one of several things at hand, and what nobody may write of it -/
theorem Rst.openAt {u1 u2 : List Cell} {v : V} {d : D} (R : Rst cl b σ H ρ (ts ++ (v, d, .sh) :: u2)) : ∃ F : SetA, Rs cl F H d v ∧ ∀ us' : List (V × D), (∀ p ∈ us', Rs cl F H p.2 p.1) → Rst cl b σ H ρ (ts ++ (v, d, .sh) :: u2 ++ us'.map fun p => (p.1, p.2, .sh)) := by
  obtain ⟨S, F, fs, s, W⟩ := R
  refine ⟨F, W.sh (i := .inr (ts.length + 0)) (by show (ts ++ (v, d, Ow.sh) :: u2)[ts.length + 0]? = _; simp), fun us' h => ?_⟩
  rw [← List.append_nil (ts ++ (v, d, Ow.sh) :: u2)] at W
  have key : ∀ (k : Nat) (v : V) (d : D) (o : Ow), (us'.map fun p => (p.1, p.2, Ow.sh))[k]? = some (v, d, o) → Rp cl F H o d v (noG (.inr k)) := fun k v d o e => by
    rw [List.getElem?_map] at e
    cases q : us'[k]? with
    | none => rw [q] at e; cases e
    | some p =>
      rw [q] at e
      cases e
      exact (Rp.sh_iff cl).mpr ⟨h p (List.mem_of_getElem? q), fun _ z => z⟩
  obtain ⟨fs', W'⟩ := W.turn (S' := S) (us' := us'.map fun p => (p.1, p.2, .sh)) (H' := H) (F' := F) noJ noG (fun _ _ => rfl) (fun _ _ e _ => e) (fun _ h => h) (fun _ h => .inl h) W.aF (fun _ _ _ _ z => z.elim) key (fun _ _ z => z.elim) (fun _ _ z => z.elim) (fun _ _ z => z.elim) fun _ _ _ z => z.elim
  exact ⟨S, F, fs', s, W'⟩
theorem drawn_lst {ds : List D} {K : PySem.W.Frag} {a : Addr} : Drawn cl ts [(.ref a, .lst ds, .sh)] ds (Itl K a) := by
  refine ⟨fun H => ∃ vs, Rx H a (.lst vs) ∧ vs.length = ds.length, fun i H x H' => H' = H ∧ ∀ xs, SqL K H a xs → xs[i]? = some x, ⟨fun i H hi ⟨vs, q, l⟩ => ⟨vs, vs[i], .inl q, List.getElem?_eq_getElem (by omega)⟩, fun H ⟨vs, q, l⟩ => ⟨vs, .inl q, by omega⟩, fun i H x H' _ _ y => y⟩, fun b σ H ρ ts2 R => ?_⟩
  rw [List.append_assoc] at R
  obtain ⟨F, r, giv⟩ := Rst.openAt (u1 := []) R
  cases r with
  | @lst _ _ vs _ rx l c =>
    refine ⟨⟨vs, rx, l.symm⟩, fun i x H' y => ⟨y.1, ?_⟩⟩
    have ex := y.2 vs (.inl rx)
    have hi : i < ds.length := by have := (List.getElem?_eq_some_iff.mp ex).1; omega
    have e := List.getElem?_eq_getElem hi
    refine ⟨ds[i], e, ?_⟩
    have z := giv [(x, ds[i])] fun p hp => by cases List.mem_singleton.mp hp; exact c i _ _ e ex
    rw [List.append_assoc ts]
    exact z
theorem drawn_tup {ds : List D} {K : PySem.W.Frag} {a : Addr} : Drawn cl ts [(.ref a, .tup ds, .sh)] ds (Itt K a) := by
  refine ⟨fun H => ∃ vs, Rx H a (.tup vs) ∧ vs.length = ds.length, fun i H x H' => H' = H ∧ ∀ xs, SqT K H a xs → xs[i]? = some x, ⟨fun i H hi ⟨vs, q, l⟩ => ⟨vs, vs[i], .inl (.inl q), List.getElem?_eq_getElem (by omega)⟩, fun H ⟨vs, q, l⟩ => ⟨vs, .inl (.inl q), by omega⟩, fun i H x H' _ _ y => y⟩, fun b σ H ρ ts2 R => ?_⟩
  rw [List.append_assoc] at R
  obtain ⟨F, r, giv⟩ := Rst.openAt (u1 := []) R
  cases r with
  | @tup _ _ vs _ rx l c =>
    refine ⟨⟨vs, rx, l.symm⟩, fun i x H' y => ⟨y.1, ?_⟩⟩
    have ex := y.2 vs (.inl (.inl rx))
    have hi : i < ds.length := by have := (List.getElem?_eq_some_iff.mp ex).1; omega
    have e := List.getElem?_eq_getElem hi
    refine ⟨ds[i], e, ?_⟩
    have z := giv [(x, ds[i])] fun p hp => by cases List.mem_singleton.mp hp; exact c i _ _ e ex
    rw [List.append_assoc ts]
    exact z
theorem drawn_str {z : Str} : Drawn cl ts [] (z.cps.toList.map fun c => .str ⟨#[c]⟩) (Its z) := by
  refine ⟨fun _ => True, fun i H x H' => H' = H ∧ ∃ c, z.cps[i]? = some c ∧ x = .str ⟨#[c]⟩, by rw [List.length_map]; exact walk_str, fun b σ H ρ ts2 R => ⟨trivial, fun i x H' ⟨y, c, e, ex⟩ => ⟨y, .str ⟨#[c]⟩, ?_, ?_⟩⟩⟩
  · rw [List.getElem?_map, Array.getElem?_toList, e]; rfl
  · subst ex; exact R.flat (d := .str _) rfl
theorem drawn_rng {lo : Int} {n : Nat} : Drawn cl ts [] ((List.range n).map fun i => .int (lo + (i : Nat))) (Itr lo n) := by
  refine ⟨fun _ => True, fun i H x H' => i < n ∧ H' = H ∧ x = .int (lo + i), by rw [List.length_map, List.length_range]; exact walk_range.mono (fun _ h => h) fun i H x H' hi _ y => ⟨hi, y.1, y.2⟩, fun b σ H ρ ts2 R => ⟨trivial, fun i x H' ⟨hi, y, ex⟩ => ⟨y, .int (lo + i), ?_, ?_⟩⟩⟩
  · rw [List.getElem?_map, List.getElem?_range hi]; rfl
  · subst ex; exact R.flat (d := .int _) rfl
theorem rng_inv1 {a as : M} {iter : Expr} (h : mI N .rng (.cons a as) sc iter = true) : ∃ p f q, iter = .Call (.Name "range" p) [f] [] q ∧ gloB sc "range" = true ∧ mA N (.cons a as) sc [f] = true := by
  cases iter with
  | Call g es ks q =>
    cases g with
    | Name x p =>
      match es, ks, h with
      | [f], [], h =>
        obtain ⟨h, h5⟩ := ba (show (decide (x = ("range" : Str)) && gloB sc x && plainE f && mE N a sc f && mA N as sc []) = true from h)
        obtain ⟨h, h4⟩ := ba h
        obtain ⟨h, h3⟩ := ba h
        obtain ⟨h1, h2⟩ := ba h
        cases dec_eq h1
        refine ⟨p, f, q, rfl, h2, ?_⟩
        show (plainE f && mE N a sc f && mA N as sc []) = true
        rw [h3, h4, h5]; rfl
      | [], _, h => cases h
      | [_], _ :: _, h => cases h
      | _ :: _ :: _, _, h => cases h
    | _ => cases h
  | _ => cases h
theorem rng_inv2 {a as : M} {iter : Expr} (h : mI N .rng2 (.cons a as) sc iter = true) : ∃ p f g q, iter = .Call (.Name "range" p) [f, g] [] q ∧ gloB sc "range" = true ∧ mA N (.cons a as) sc [f, g] = true := by
  cases iter with
  | Call g es ks q =>
    cases g with
    | Name x p =>
      match es, ks, h with
      | [f, g], [], h =>
        obtain ⟨h, h5⟩ := ba (show (decide (x = ("range" : Str)) && gloB sc x && plainE f && mE N a sc f && mA N as sc [g]) = true from h)
        obtain ⟨h, h4⟩ := ba h
        obtain ⟨h, h3⟩ := ba h
        obtain ⟨h1, h2⟩ := ba h
        cases dec_eq h1
        refine ⟨p, f, g, q, rfl, h2, ?_⟩
        show (plainE f && mE N a sc f && mA N as sc [g]) = true
        rw [h3, h4, h5]; rfl
      | [], _, h => cases h
      | [_], _, h => cases h
      | [_, _], _ :: _, h => cases h
      | _ :: _ :: _ :: _, _, h => cases h
    | _ => cases h
  | _ => cases h
/-- the source of a walk, from its text -/
theorem pi_src {it : It} {src : M} {iter tg : Expr} (G : Gd T cl W X N sc lv) (ha : ∀ a as, src = .cons a as → SnE T cl N lv a ∧ SnE T cl N lv as) (b : Bs) (h : mI N it src sc iter = true) (hall : SnE T cl N lv src) : PI X tg iter (tI cl T b W it src) := by
  cases src with
  | cons a as =>
    obtain ⟨sa, sas⟩ := ha a as rfl
    have one : ∀ {it : It}, it ≠ .rng → it ≠ .rng2 → mI N it (.cons a as) sc iter = true → as = .nil ∧ mE N a sc iter = true := fun {it} hn hn2 h => by
      cases it with
      | rng => exact absurd rfl hn
      | rng2 => exact absurd rfl hn2
      | _ => cases as <;> first | exact ⟨rfl, h⟩ | cases h
    have val : ∀ {it σ H Q}, as = .nil → tI cl T b W it (.cons a as) σ H Q → tE cl T b W a σ H fun v H1 => ∃ (ρ1 : DEnv) (d : D) (k : List D → DEnv → Prop) (ts : List Cell), Rst cl b σ H1 ρ1 (ts ++ [(v, d, .sh)]) ∧ (itemsW it [d] fun items => k items ρ1) ∧ ∀ items ρ1, k items ρ1 → ∀ J H' us, Rst cl b σ H' ρ1 (ts ++ us) → Drawn cl ts us items J → Q J H' := fun {it σ H Q} e ⟨ρ, ts, k, xc, R, w, x, f⟩ => by
      subst e
      refine ⟨ρ, ts, _, xc, R, w, x, fun xs ρ1 hk v H1 ft R1 => ?_⟩
      have hk : xs.length = 1 ∧ match datas (xs ++ []) with | some ds => itemsW it ds fun items => k items ρ1 | none => False := hk
      rw [List.append_nil] at hk
      rcases fit1 ft with ⟨d, o, rfl⟩ | ⟨i, rfl, _⟩
      · exact ⟨ρ1, d, k, ts, Rst.freeze1 (show Rst cl b σ H1 ρ1 (ts ++ [(v, d, o)]) from R1), hk.2, f⟩
      · exact hk.2.elim
    cases it with
    | lst =>
      obtain ⟨e, h1⟩ := one (by simp) (by simp) h
      refine PI.of (pi_list (sa.e G b iter h1)) fun σ H Q q => ?_
      obtain ⟨ρ, ts, k, xc, R, w, x, f⟩ := val e q
      refine ⟨ρ, ts, k, xc, R, w, x, fun xs ρ' hk v H' ft R' => ?_⟩
      obtain ⟨ρ1, d, k1, ts1, R1, w1, f1⟩ := f xs ρ' hk v H' ft R'
      cases d with
      | lst ds =>
        have r := R1.read1
        cases r with
        | @lst _ a vs _ rx l c => exact ⟨a, rfl, ⟨vs, .inl rx⟩, f1 ds ρ1 w1 _ _ _ R1 drawn_lst⟩
      | _ => exact (show False from w1).elim
    | tup =>
      obtain ⟨e, h1⟩ := one (by simp) (by simp) h
      refine PI.of (pi_tup (sa.e G b iter h1)) fun σ H Q q => ?_
      obtain ⟨ρ, ts, k, xc, R, w, x, f⟩ := val e q
      refine ⟨ρ, ts, k, xc, R, w, x, fun xs ρ' hk v H' ft R' => ?_⟩
      obtain ⟨ρ1, d, k1, ts1, R1, w1, f1⟩ := f xs ρ' hk v H' ft R'
      cases d with
      | tup ds =>
        have r := R1.read1
        cases r with
        | @tup _ a vs _ rx l c => exact ⟨a, rfl, ⟨vs, .inl (.inl rx)⟩, f1 ds ρ1 w1 _ _ _ R1 drawn_tup⟩
      | _ => exact (show False from w1).elim
    | str =>
      obtain ⟨e, h1⟩ := one (by simp) (by simp) h
      refine PI.of (pi_str (sa.e G b iter h1)) fun σ H Q q => ?_
      obtain ⟨ρ, ts, k, xc, R, w, x, f⟩ := val e q
      refine ⟨ρ, ts, k, xc, R, w, x, fun xs ρ' hk v H' ft R' => ?_⟩
      obtain ⟨ρ1, d, k1, ts1, R1, w1, f1⟩ := f xs ρ' hk v H' ft R'
      cases d with
      | str z =>
        have r := R1.read1
        cases r
        exact ⟨z, rfl, f1 _ ρ1 w1 _ _ [] (by rw [List.append_nil]; exact R1.drop) drawn_str⟩
      | _ => exact (show False from w1).elim
    | rng =>
      obtain ⟨p, f, q, rfl, h1, h2⟩ := rng_inv1 h
      have pl := mA_plain h2
      refine PI.of (pi_range1 (glo_of G.toGq h1) (G.bi "range" (by decide +kernel)) (hall.a G b _ h2) (star_of (es := []) (pl f List.mem_cons_self))) fun σ H Q ⟨ρ, ts, k, xc, R, w, x, fin⟩ => ?_
      refine ⟨ρ, ts, _, xc, R, w, x, fun xs ρ1 hk vs H1 ft R1 => ?_⟩
      split at hk
      · rename_i ds e
        have r := R1.readAll e ft
        unfold itemsW at hk
        split at hk <;> first | (rename_i e2; cases e2; done) | skip
        · obtain ⟨v, rfl, h1⟩ := r.one
          cases h1
          exact ⟨_, rfl, hk.1, hk.2.1, fin _ ρ1 hk.2.2 _ _ [] (by rw [List.append_nil]; exact R1.drop) drawn_rng⟩
        · exact hk.elim
      · exact hk.elim
    | rng2 =>
      obtain ⟨p, f, g, q, rfl, h1, h2⟩ := rng_inv2 h
      have pl := mA_plain h2
      have pg := pl g (List.mem_cons_of_mem _ List.mem_cons_self)
      refine PI.of (pi_range2 (glo_of G.toGq h1) (G.bi "range" (by decide +kernel)) (hall.a G b _ h2) (by rw [star_of (pl f List.mem_cons_self), star_of pg]; rfl) (star_of pg)) fun σ H Q ⟨ρ, ts, k, xc, R, w, x, fin⟩ => ?_
      refine ⟨ρ, ts, _, xc, R, w, x, fun xs ρ1 hk vs H1 ft R1 => ?_⟩
      split at hk
      · rename_i ds e
        have r := R1.readAll e ft
        unfold itemsW at hk
        split at hk <;> first | (rename_i e2; cases e2; done) | skip
        · obtain ⟨v, u, rfl, h1, h2⟩ := r.two
          cases h1; cases h2
          exact ⟨_, _, rfl, ⟨hk.1.1, hk.1.2, hk.2.1.1, hk.2.1.2⟩, fin _ ρ1 hk.2.2 _ _ [] (by rw [List.append_nil]; exact R1.drop) drawn_rng⟩
        · exact hk.elim
      · exact hk.elim
  | _ => cases h
end
end DL
/-! DL18: targets. -/
namespace DL
open PySem PySem.Spec PyProof.Rows L2
section
variable {T : Tab} {cl : Str → Addr} {N : List Str} {lv : Nat} {b : Bs} {σ : L2.St} {H H' : Hp} {ρ : DEnv} {ts us : List Cell} {W : WX} {X : Cx} {sc : Scope}
theorem Rst.len (R : Rst cl b σ H ρ ts) : ρ.length = σ.length := by
  obtain ⟨S, F, fs, s, W⟩ := R
  rw [s.env, List.length_map, s.len]
theorem Rst.store' {v : V} {d : D} {o : Ow} (R : Rst cl b σ H ρ (ts ++ [(v, d, o)])) (i : Nat) : Rst cl b (σ.set i (some v)) H (ρ.set i (some (d, o))) ts := by
  by_cases hi : i < ρ.length
  · exact R.store hi
  · have hl := R.len
    rw [List.set_eq_of_length_le (by omega), List.set_eq_of_length_le (by omega)]
    exact R.drop
theorem wipe_set {i : Nat} {x : Option V} : ∀ {vs : List Nat}, i ∈ vs → wipe (σ.set i x) vs = wipe σ vs
  | [], h => by cases h
  | v :: vs, h => by
    unfold wipe
    by_cases e : i ∈ vs
    · rw [wipe_set e]
    · have e2 : i = v := by rcases List.mem_cons.mp h with q | q; exact q; exact absurd q e
      subst e2
      have key : ∀ {vs : List Nat}, i ∉ vs → wipe (σ.set i x) vs = (wipe σ vs).set i x := by
        intro vs
        induction vs with
        | nil => intro _; rfl
        | cons w ws ih =>
          intro hn
          simp only [List.mem_cons, not_or] at hn
          unfold wipe
          rw [ih hn.2, List.set_comm _ _ hn.1]
      rw [key e, List.set_set]
/-- a target takes what nobody may write -/
def tG (cl : Str → Addr) (b : Bs) (t : Tg) : TG := fun x σ H Q => ∃ (ρ ρ1 : DEnv) (ts : List Cell) (d : D), Rst cl b σ H ρ (ts ++ [(x, d, .sh)]) ∧ tgW t d ρ = some ρ1 ∧ ∀ σ1, Rst cl b σ1 H ρ1 ts → (∀ l, (∀ i ∈ t.slots, i ∈ l) → wipe σ1 l = wipe σ l) → Q σ1 H
def tGs (cl : Str → Addr) (b : Bs) (t : Tg) : TGs := fun xs σ H Q => ∃ (ρ ρ1 : DEnv) (ts : List Cell) (a : Addr) (al pre ds : List D) (vs : List V), Rst cl b σ H ρ (ts ++ [(.ref a, .tup al, .sh)]) ∧ al = pre ++ ds ∧ H a = some (.tup vs) ∧ xs = vs.drop pre.length ∧ tgW t (.tup ds) ρ = some ρ1 ∧
  ∀ σ1, Rst cl b σ1 H ρ1 (ts ++ [(.ref a, .tup al, .sh)]) → (∀ l, (∀ i ∈ t.slots, i ∈ l) → wipe σ1 l = wipe σ l) → Q σ1 H
theorem PG.of {tg : Expr} {t t' : TG} (h : PG X tg t) (i : ∀ x σ H Q, t' x σ H Q → t x σ H Q) : PG X tg t' := ⟨fun pins s σ H v u Q I r q => h.run pins s σ H v u Q I r (i v σ H Q q)⟩
theorem PGs.of {es : List Expr} {t t' : TGs} (h : PGs X es t) (i : ∀ x σ H Q, t' x σ H Q → t x σ H Q) : PGs X es t' := ⟨fun pins s σ H v u Q I r q => h.run pins s σ H v u Q I r (i v σ H Q q)⟩
/-- where targets stand: their names are this frame's -/
structure Gt (X : Cx) (N : List Str) (sc : Scope) : Prop where
  hN : X.N = N
  nd : N.Nodup
  calm : X.calm = true
  loc : ∀ x, locB sc x = true → Loc X.env.scope x ∧ (X.fn x = true ∨ X.env.scope.names.lookup x = some .local)
theorem pg_nm {i : Nat} {tg : Expr} (G : Gt X N sc) (h : mTg N (.nm i) sc tg = true) : PG X tg (tG cl b (.nm i)) := by
  cases tg with
  | Name x p =>
    obtain ⟨h1, h2⟩ := ba (show (decide (N[i]? = some x) && locB sc x) = true from h)
    obtain ⟨l1, l2⟩ := G.loc x h2
    refine PG.of (pg_name (i := i) (by rw [G.hN]; exact G.nd) (by rw [G.hN]; exact dec_eq h1) l1 l2) fun x σ H Q ⟨ρ, ρ1, ts, d, R, e, f⟩ => ?_
    cases e
    exact f _ (R.store' i) fun l hl => wipe_set (hl i (by simp [Tg.slots]))
  | _ => cases h
theorem asg_of {e : Expr} {es : List Expr} {env : Env} (h : plainE e = true) : assignEach (e :: es) env = (false, assign e env) :: assignEach es env := by
  cases e <;> first | rfl | cases h
theorem mTs_plain : ∀ {t : Tg} {es : List Expr}, mTg.mTs N t sc es = true → (∀ env, (assignEach es env).length = es.length ∧ (assignEach es env).findIdx? (·.1) = none)
  | .nil, [], _ => fun _ => ⟨rfl, rfl⟩
  | .nil, _ :: _, h => by cases h
  | .nm _, [], h => by cases h
  | .nm _, _ :: _, h => by cases h
  | .cons t r, [], h => by cases h
  | .cons t r, e :: es, h => fun env => by
    obtain ⟨h, h3⟩ := ba (show (plainE e && mTg N t sc e && mTg.mTs N r sc es) = true from h)
    obtain ⟨h1, h2⟩ := ba h
    obtain ⟨q1, q2⟩ := mTs_plain (t := r) h3 env
    rw [asg_of h1]
    refine ⟨by simp [q1], ?_⟩
    rw [List.findIdx?_cons]
    simp [q2]
/-- a tuple of targets, one by one -/
theorem pgs_nil' (G : Gt X N sc) : PGs X [] (tGs cl b .nil) := by
  refine PGs.of pgs_nil fun xs σ H Q ⟨ρ, ρ1, ts, a, al, pre, ds, vs, R, e, ha, ex, et, f⟩ => ?_
  cases ds with
  | nil =>
    cases et
    refine ⟨?_, f σ R fun l _ => rfl⟩
    have r := R.read1
    cases r with
    | @tup _ _ vs' _ rx l c =>
      have rx : H a = some (.tup vs') := rx
      rw [ha] at rx; cases rx
      rw [ex, ← List.length_eq_zero_iff, List.length_drop, ← l, e]
      simp
  | cons d ds => cases et
theorem pgs_cons' {e : Expr} {es : List Expr} {t r : Tg} (he : plainE e = true) (h1 : PG X e (tG cl b t)) (h2 : PGs X es (tGs cl b r)) : PGs X (e :: es) (tGs cl b (.cons t r)) := by
  refine PGs.of (pgs_cons h1 h2 (by rw [asg_of he]; rfl)) fun xs σ H Q ⟨ρ, ρ1, ts, a, al, pre, ds, vs, R, e, ha, ex, et, f⟩ => ?_
  cases ds with
  | nil => cases et
  | cons d ds =>
    have et : ((tgW t d ρ).bind fun ρ1 => tgW r (.tup ds) ρ1) = some ρ1 := et
    cases q : tgW t d ρ with
    | none => rw [q] at et; cases et
    | some ρ2 =>
      rw [q] at et
      have et : tgW r (.tup ds) ρ2 = some ρ1 := et
      obtain ⟨F, rt, giv⟩ := Rst.openAt (u1 := []) (u2 := []) R
      cases rt with
      | @tup _ _ vs' _ rx l c =>
        have rx : H a = some (.tup vs') := rx
        rw [ha] at rx; cases rx
        have ed : al[pre.length]? = some d := by rw [e, List.getElem?_append_right (Nat.le_refl _), Nat.sub_self]; rfl
        have hp : pre.length < vs.length := by have := (List.getElem?_eq_some_iff.mp ed).1; omega
        have ev := List.getElem?_eq_getElem hp
        refine ⟨vs[pre.length], vs.drop (pre.length + 1), by rw [ex, List.drop_eq_getElem_cons hp], ?_⟩
        have R1 := giv [(vs[pre.length], d)] fun p hp => by cases List.mem_singleton.mp hp; exact c _ _ _ ed ev
        refine ⟨ρ, ρ2, ts ++ [(.ref a, .tup al, .sh)], d, R1, q, fun σ1 R2 w1 => ?_⟩
        refine ⟨ρ2, ρ1, ts, a, al, pre ++ [d], ds, vs, R2, by rw [e]; simp, ha, by simp, et, fun σ2 R3 w2 => f σ2 R3 fun l hl => ?_⟩
        rw [w2 l fun i hi => hl i (by simp [Tg.slots, hi]), w1 l fun i hi => hl i (by simp [Tg.slots, hi])]
theorem pg_tup' {t r : Tg} {es : List Expr} {j : Nat} {p : Pos} (G : Gt X N sc) (h : mTg.mTs N (.cons t r) sc es = true) (hs : PGs X es (tGs cl b (.cons t r))) : PG X (.Tuple es j p) (tG cl b (.cons t r)) := by
  obtain ⟨h1, h2⟩ := mTs_plain h X.env
  refine PG.of (pg_tup G.calm hs h1 h2) fun x σ H Q ⟨ρ, ρ1, ts, d, R, e, f⟩ => ?_
  have isT : ∃ ds, d = .tup ds := by
    cases d <;> first | exact ⟨_, rfl⟩ | cases e
  obtain ⟨ds, rfl⟩ := isT
  have rt := R.read1
  cases rt with
  | @tup _ a vs _ rx l c =>
    have rx : H a = some (.tup vs) := rx
    refine ⟨a, vs, rfl, .inl (.inl rx), ?_, ρ, ρ1, ts, a, ds, [], ds, vs, R, rfl, rx, rfl, e, fun σ1 R1 w => f σ1 R1.drop w⟩
    have key : ∀ {t : Tg} {es : List Expr} {ds : List D} {ρ ρ1 : DEnv}, mTg.mTs N t sc es = true → tgW t (.tup ds) ρ = some ρ1 → ds.length = es.length := by
      intro t
      induction t with
      | nm i => intro es ds ρ ρ1 h; cases es <;> cases h
      | nil =>
        intro es ds ρ ρ1 h e
        cases es with
        | cons _ _ => cases h
        | nil => cases ds with
          | nil => rfl
          | cons _ _ => cases e
      | cons t r _ ih =>
        intro es ds ρ ρ1 h e
        cases es with
        | nil => cases h
        | cons x es =>
          cases ds with
          | nil => cases e
          | cons d ds =>
            have e : ((tgW t d ρ).bind fun ρ1 => tgW r (.tup ds) ρ1) = some ρ1 := e
            cases q : tgW t d ρ with
            | none => rw [q] at e; cases e
            | some ρ2 =>
              rw [q] at e
              obtain ⟨_, h3⟩ := ba (show (plainE x && mTg N t sc x && mTg.mTs N r sc es) = true from h)
              simp [ih h3 e]
    rw [← l]; exact key h e
theorem pg_of (G : Gt X N sc) : ∀ (t : Tg), (∀ e, mTg N t sc e = true → PG X e (tG cl b t)) ∧ ∀ es, mTg.mTs N t sc es = true → PGs X es (tGs cl b t) := by
  intro t
  induction t with
  | nm i => exact ⟨fun e h => pg_nm G h, fun es h => by cases es <;> cases h⟩
  | nil =>
    refine ⟨fun e h => (by cases e <;> cases h), fun es h => ?_⟩
    cases es with
    | nil => exact pgs_nil' G
    | cons _ _ => cases h
  | cons t r ht hr =>
    have all : ∀ es, mTg.mTs N (.cons t r) sc es = true → PGs X es (tGs cl b (.cons t r)) := fun es h => by
      cases es with
      | nil => cases h
      | cons e es =>
        obtain ⟨h, h3⟩ := ba (show (plainE e && mTg N t sc e && mTg.mTs N r sc es) = true from h)
        obtain ⟨h1, h2⟩ := ba h
        exact pgs_cons' h1 (ht.1 e h2) (hr.2 es h3)
    refine ⟨fun e h => ?_, all⟩
    cases e with
    | Tuple es j p => exact pg_tup' G h (all es h)
    | _ => cases h
end
end DL
/-! DL19: comprehensions. -/
namespace DL
open PySem PySem.Spec PyProof.Rows L2
section
variable {T : Tab} {cl : Str → Addr} {N : List Str} {lv : Nat} {b : Bs} {σ : L2.St} {H H' : Hp} {ρ : DEnv} {ts us : List Cell} {W : WX} {X : Cx} {sc : Scope}
abbrev noW : WX := fun _ _ _ _ => False
theorem Gd.blk (G : Gd T cl W X N sc lv) (s : Shared) (H : Hp) (scope : Scope) (cl' : List (Str × Addr)) (C : Addr) (fp : List Addr) : Gd T cl noW (X.blk s H scope (compEnvC scope cl' C X.env) fp) N (relS scope sc) lv where
  hN := G.hN
  nd := G.nd
  sc := by rw [← G.sc]; rfl
  calm := G.calm
  room := G.room
  gd := G.gd
  con := G.con
  bi := G.bi
  tk := fun u s' ⟨_, _, _, _, _, _, _, _, _, _, _, _, _, _, _, _, w⟩ => w.elim
  own := PassesOwn.never
  lev := G.lev
  fn := G.fn
theorem relS_look {scope sc : Scope} {x : Str} {k : NameKind} (hk : k ≠ .free) (h : scope.names.lookup x = some k) : (relS scope sc).names.lookup x = some k := L2.lookup_relS_keep (sc := sc) hk h
theorem Gt.blk (G : Gd T cl W X N sc lv) (s : Shared) (H : Hp) (scope : Scope) (cl' : List (Str × Addr)) (C : Addr) (fp : List Addr) : Gt (X.blk s H scope (compEnvC scope cl' C X.env) fp) N scope where
  hN := G.hN
  nd := G.nd
  calm := G.calm
  loc := fun x h => by
    have e : (compEnvC scope cl' C X.env).scope = relS scope X.env.scope := rfl
    show Loc (compEnvC scope cl' C X.env).scope x ∧ ((scope.names.lookup x == some .cell) = true ∨ (compEnvC scope cl' C X.env).scope.names.lookup x = some .local)
    rw [e]
    unfold locB at h
    split at h
    · rename_i q
      have z := relS_look (sc := X.env.scope) (by simp) q
      exact ⟨.inl z, .inr z⟩
    · rename_i q
      have z := relS_look (sc := X.env.scope) (by simp) q
      exact ⟨.inr z, .inl (by rw [q]; simp)⟩
    · cases h
theorem Rst.unset2 (R : Rst cl b σ H ρ ts) (i : Nat) : Rst cl b (σ.set i none) H (ρ.set i none) ts := by
  obtain ⟨S, F, fs, s, W⟩ := R.unset i
  refine ⟨S, F, fs, ⟨by rw [s.len, List.length_set], s.env, fun j c e => ?_⟩, W⟩
  by_cases hj : i = j
  · subst hj
    have h := congrArg (fun l => l[i]?) s.env
    simp only [List.getElem?_map, e, Option.map_some] at h
    by_cases hl : i < ρ.length
    · rw [List.getElem?_set_self hl] at h; cases h
    · rw [List.getElem?_eq_none (by simpa using hl)] at h; cases h
  · rw [List.getElem?_set_ne hj]
    exact s.at_ j c e
theorem Rst.wiped (R : Rst cl b σ H ρ ts) : ∀ l : List Nat, Rst cl b (wipe σ l) H (clr ρ l) ts
  | [] => R
  | i :: l => (Rst.wiped R l).unset2 i
theorem Rst.unwipe {l : List Nat} (R : Rst cl b (wipe σ l) H ρ ts) : Rst cl b σ H ρ ts := by
  obtain ⟨S, F, fs, s, W⟩ := R
  exact ⟨S, F, fs, ⟨by rw [s.len, wipe_length], s.env, fun j c e => (wipe_some (s.at_ j c e)).1⟩, W⟩
theorem wipe_in : ∀ {l : List Nat} {i : Nat}, i ∈ l → i < σ.length → (wipe σ l)[i]? = some none
  | [], _, h, _ => by cases h
  | v :: l, i, h, hi => by
    unfold wipe
    by_cases e : v = i
    · subst e; exact List.getElem?_set_self (by rw [wipe_length]; exact hi)
    · rw [List.getElem?_set_ne e]
      exact wipe_in (by rcases List.mem_cons.mp h with q | q; exact absurd q.symm e; exact q) hi
theorem set_same {α : Type} {l : List α} {i : Nat} {x : α} (h : ∀ (hi : i < l.length), l[i]? = some x) : l.set i x = l := by
  apply List.ext_getElem?
  intro j
  by_cases e : i = j
  · subst e
    by_cases hi : i < l.length
    · rw [List.getElem?_set_self hi, h hi]
    · rw [List.set_eq_of_length_le (by omega)]
  · rw [List.getElem?_set_ne e]
theorem wipe_sub : ∀ {l m : List Nat}, (∀ i ∈ l, i ∈ m) → wipe (wipe σ m) l = wipe σ m
  | [], _, _ => rfl
  | v :: l, m, h => by
    show (wipe (wipe σ m) l).set v none = _
    rw [wipe_sub fun i hi => h i (List.mem_cons_of_mem _ hi)]
    exact set_same fun hi => wipe_in (h v List.mem_cons_self) (by rw [wipe_length] at hi; exact hi)
theorem Rst.skipL : ∀ {us vs : List Cell}, Rst cl b σ H ρ (ts ++ us ++ vs) → Rst cl b σ H ρ (ts ++ vs)
  | [], vs, R => by rw [List.append_nil] at R; exact R
  | c :: us, vs, R => by
    rw [List.append_assoc] at R
    exact Rst.skipL (us := us) (by rw [List.append_assoc]; exact Rst.skip1 (us := us ++ vs) R)
theorem Rst.tempL {D0 : Addr} {acc : List D} {c : Ow} (R : Rst cl b σ H ρ (ts ++ (.ref D0, .lst acc, .own c) :: us)) : ∃ vs, H D0 = some (.lst vs) ∧ acc.length = vs.length := by
  obtain ⟨S, F, fs, s, W⟩ := R
  have r : Rp cl F H (.own c) (.lst acc) (.ref D0) (fs (.inr (ts.length + 0))) := W.temp (k := 0) rfl
  obtain ⟨a, vs, f0, e1, e2, l, _⟩ := Rp.lst (by simp) r
  cases e1
  exact ⟨vs, e2, l⟩
/-- a turn's tests and its item, in the small language -/
def turnW (T : Tab) (cond elt : M) : DEnv → (List Arg → DEnv → Prop) → Prop := fun ρ2 k2 => wE T cond ρ2 (fun cs ρ3 => match cs with
          | [] => wE T elt ρ3 (fun xs ρ4 => xs.length = 1 ∧ k2 xs ρ4) fun _ _ => False
          | [.dat c _] => truthW c fun b => if b = true then wE T elt ρ3 (fun xs ρ4 => xs.length = 1 ∧ k2 xs ρ4) fun _ _ => False else k2 [] ρ3
          | _ => False) fun _ _ => False
theorem xk_no {xc : XC} (h : ∀ e ρ, ¬ xc e ρ) : Xk cl b σ W xc := fun e ρ' q => (h e ρ' q).elim
/-- the comprehension, by values -/
theorem comp_core {t : Tg} {it : It} {src cond elt : M} {tt : TT} {Q : VK} (Htt : ∀ {σ : L2.St} {H : Hp} {ρ : DEnv} {ts : List Cell} {k2 : List Arg → DEnv → Prop} {Q : Bool → Hp → Prop}, Rst cl b σ H ρ ts → turnW T cond elt ρ k2 →
      (∀ bo H' ρ', Rst cl b σ H' ρ' ts → (if bo = true then wE T elt ρ' (fun xs ρ4 => xs.length = 1 ∧ k2 xs ρ4) fun _ _ => False else k2 [] ρ') → Q bo H') → tt σ H Q)
    (h : tE cl T b W (.comp t it src cond elt) σ H Q) : tLc (tI cl T b W it src) (tG cl b t) tt (tE cl T b noW elt) t.slots σ H Q := by
  obtain ⟨ρ, ts, k, xc, R, w, x, fin⟩ := h
  refine ⟨ρ, ts, fun items ρ1 => ∃ c, compW (turnW T cond elt) t c items [] (clr ρ1 t.slots) fun out ρ2 => k [.dat (.lst out) (.own c)] ρ2, xc, R, w, x, fun items ρ1 ⟨c, cw⟩ J H1 us R1 dr D0 hD => ?_⟩
  obtain ⟨G, Y, wk, dr⟩ := dr
  refine lc_it (Qd := fun H => Q (.ref D0) H) wk (fun i H2 => ∃ acc ρ2, Rst cl b (wipe σ t.slots) H2 ρ2 (ts ++ us ++ [(.ref D0, .lst acc, .own c)]) ∧ compW (turnW T cond elt) t c (items.drop i) acc ρ2 fun out ρ2 => k [.dat (.lst out) (.own c)] ρ2) ?_ ?_ ?_ ?_
  · refine ⟨[], clr ρ1 t.slots, ?_, cw⟩
    have q := R1.wiped t.slots
    rw [← List.append_nil (ts ++ us)] at q
    exact q.newLst (c := c) (fun p hp => by cases hp) hD
  · rintro i H2 _ ⟨acc, ρ2, R2, _⟩
    exact (dr b _ H2 ρ2 _ R2).1
  · rintro i x0 H2 H3 hi ⟨acc, ρ2, R2, cw2⟩ hy
    obtain ⟨e3, d, ed, R3⟩ := (dr b _ H2 ρ2 _ R2).2 i x0 H3 hy
    subst e3
    obtain ⟨hi', ed'⟩ := List.getElem?_eq_some_iff.mp ed
    rw [List.drop_eq_getElem_cons hi', ed'] at cw2
    have cw2 : (match tgW t d ρ2 with
      | some ρ1 => turnW T cond elt ρ1 fun xs ρ' => match xs with
        | [] => compW (turnW T cond elt) t c (items.drop (i + 1)) acc (clr ρ' t.slots) fun out ρ2 => k [.dat (.lst out) (.own c)] ρ2
        | [.dat x ox] => acc.length < sizeLine ∧ (x.flat = true ∨ c = .sh ∨ c = ox) ∧ compW (turnW T cond elt) t c (items.drop (i + 1)) (acc ++ [x]) (clr ρ' t.slots) fun out ρ2 => k [.dat (.lst out) (.own c)] ρ2
        | _ => False
      | none => False) := cw2
    split at cw2
    · rename_i ρ3 et
      refine ⟨ρ2, ρ3, _, d, R3, et, fun σ1 R4 w1 => ?_⟩
      have ew : wipe σ1 t.slots = wipe σ t.slots := by rw [w1 t.slots fun _ h => h, wipe_sub fun _ h => h]
      refine ⟨ew, Htt R4 cw2 fun bo H5 ρ5 R5 h5 => ?_⟩
      cases bo with
      | false =>
        simp only [Bool.false_eq_true, if_false] at h5 ⊢
        refine ⟨acc, clr ρ5 t.slots, ?_, h5⟩
        rw [← ew]
        exact R5.wiped t.slots
      | true =>
        simp only [if_true] at h5 ⊢
        refine ⟨ρ5, _, _, fun _ _ => False, R5, h5, xk_no fun _ _ h => h, fun xs ρ6 hk v H6 ft R6 => ?_⟩
        obtain ⟨hl, hk⟩ := hk
        split at hk
        · cases hl
        · rename_i x ox
          obtain ⟨hz, hc, cw3⟩ := hk
          have R6 : Rst cl b σ1 H6 ρ6 (ts ++ us ++ [(.ref D0, .lst acc, .own c)] ++ [(v, x, ox)]) := R6
          rw [List.append_assoc (ts ++ us)] at R6
          obtain ⟨vs, eD, lv⟩ := R6.tempL
          refine ⟨vs, eD, by omega, acc ++ [x], clr ρ6 t.slots, ?_, cw3⟩
          rw [← ew]
          exact (R6.appendT eD hc).wiped t.slots
        · exact hk.elim
    · exact cw2.elim
  · rintro H2 ⟨acc, ρ2, R2, cw2⟩
    rw [List.drop_length] at cw2
    exact fin _ ρ2 cw2 _ H2 trivial (Rst.skipL R2.unwipe)
/-- the parts of a comprehension -/
structure CompOk (N : List Str) (t : Tg) (it : It) (src cond elt : M) (sc : Scope) (e tg i : Expr) (ifs : List Expr) (scope : Scope) : Prop where
  oTg : mTg N t scope tg = true
  oBlk : blkC N sc scope (ownT t tg) = true
  oPl : plainE i = true
  oSrc : mI N it src sc i = true
  oCond : mA N cond (relS scope sc) ifs = true
  oOne : ifs.length ≤ 1
  oElt : mE N elt (relS scope sc) e = true
  oOwn : (ownT t tg).map (·.2) = t.slots
  oTst : ∀ c ∈ ifs, cond.tsts = true
theorem comp_inv {t : Tg} {it : It} {src cond elt : M} {e : Expr} (h : mE N (.comp t it src cond elt) sc e = true) : ∃ e1 tg i ifs scope p, e = .ListComp e1 [⟨tg, i, ifs, 0⟩] scope p ∧ CompOk N t it src cond elt sc e1 tg i ifs scope := by
  cases e with
  | ListComp e1 gens scope p =>
    match gens, h with
    | [⟨tg, i, ifs, 0⟩], h =>
      obtain ⟨h, h9⟩ := ba (show (mTg N t scope tg && blkC N sc scope (ownT t tg) && plainE i && mI N it src sc i && mA N cond (relS scope sc) ifs && decide (ifs.length ≤ 1) && mE N elt (relS scope sc) e1 && decide ((ownT t tg).map (·.2) = t.slots) && (ifs.all fun c => cond.tsts)) = true from h)
      obtain ⟨h, h8⟩ := ba h
      obtain ⟨h, h7⟩ := ba h
      obtain ⟨h, h6⟩ := ba h
      obtain ⟨h, h5⟩ := ba h
      obtain ⟨h, h4⟩ := ba h
      obtain ⟨h, h3⟩ := ba h
      obtain ⟨h1, h2⟩ := ba h
      exact ⟨e1, tg, i, ifs, scope, p, rfl, h1, h2, h3, h4, h5, of_decide_eq_true h6, h7, of_decide_eq_true h8, List.all_eq_true.mp h9⟩
    | [], h => cases h
    | [⟨_, _, _, .ofNat (_ + 1)⟩], h => cases h
    | [⟨_, _, _, .negSucc _⟩], h => cases h
    | ⟨_, _, _, .ofNat 0⟩ :: _ :: _, h => cases h
    | ⟨_, _, _, .ofNat (_ + 1)⟩ :: _ :: _, h => cases h
    | ⟨_, _, _, .negSucc _⟩ :: _ :: _, h => cases h
  | _ => cases h
/-- the test of a comprehension -/
theorem comp_tests {t : Tg} {it : It} {src cond elt : M} {e tg i : Expr} {ifs : List Expr} {scope : Scope} (C : CompOk N t it src cond elt sc e tg i ifs scope) (G : Gd T cl W X N sc lv) (b : Bs) (hc : ∀ a as, cond = .cons a as → SnE T cl N lv a) :
    ∃ tt : TT, (∀ (s : Shared) (H : Hp) (C : Addr) (cl' : List (Str × Addr)) (fp : List Addr), PTs (X.blk s H scope (compEnvC scope cl' C X.env) fp) ifs tt) ∧
      ∀ {σ : L2.St} {H : Hp} {ρ : DEnv} {ts : List Cell} {k2 : List Arg → DEnv → Prop} {Q : Bool → Hp → Prop}, Rst cl b σ H ρ ts → turnW T cond elt ρ k2 →
      (∀ bo H' ρ', Rst cl b σ H' ρ' ts → (if bo = true then wE T elt ρ' (fun xs ρ4 => xs.length = 1 ∧ k2 xs ρ4) fun _ _ => False else k2 [] ρ') → Q bo H') → tt σ H Q := by
  match ifs, C.oCond, C.oOne, C.oTst with
  | [], h, _, _ =>
    refine ⟨tYes, fun _ _ _ _ _ => pts_nil, fun {σ H ρ ts k2 Q} R w f => ?_⟩
    have e : cond = .nil := by
      cases cond <;> first | rfl | cases h
    subst e
    exact f true H ρ R (show if true = true then _ else _ by rw [if_pos rfl]; exact w)
  | [c], h, _, ht =>
    have e : ∃ a, cond = .cons a .nil := by
      cases cond with
      | cons a as =>
        obtain ⟨_, h2⟩ := ba (show (plainE c && mE N a (relS scope sc) c && mA N as (relS scope sc) []) = true from h)
        cases as <;> first | exact ⟨a, rfl⟩ | cases h2
      | _ => cases h
    obtain ⟨a, rfl⟩ := e
    obtain ⟨h1, _⟩ := ba (show (plainE c && mE N a (relS scope sc) c && mA N .nil (relS scope sc) []) = true from h)
    obtain ⟨_, h1⟩ := ba h1
    refine ⟨tET cl T b noW a, fun s H C cl' fp => pts_one ((hc a .nil rfl).t (G.blk s H scope cl' C fp) b c (ht c List.mem_cons_self) h1), fun {σ H ρ ts k2 Q} R w f => ?_⟩
    refine ⟨ρ, ts, _, fun _ _ => False, R, w, xk_no fun _ _ h => h, fun xs ρ1 hk => ?_⟩
    have hk : xs.length = 1 ∧ (match xs ++ [] with
          | [] => wE T elt ρ1 (fun xs ρ4 => xs.length = 1 ∧ k2 xs ρ4) fun _ _ => False
          | [.dat c _] => truthW c fun b => if b = true then wE T elt ρ1 (fun xs ρ4 => xs.length = 1 ∧ k2 xs ρ4) fun _ _ => False else k2 [] ρ1
          | _ => False) := hk
    rw [List.append_nil] at hk
    obtain ⟨hl, hk⟩ := hk
    split at hk
    · cases hl
    · exact ⟨_, _, rfl, truth_mono hk fun bo q H' R' => f bo H' ρ1 R' q⟩
    · exact hk.elim
  | _ :: _ :: _, _, h, _ => exact absurd h (by simp)
theorem sne_comp {t : Tg} {it : It} {src cond elt : M} (hs : SnE T cl N lv src) (hs2 : ∀ a as, src = .cons a as → SnE T cl N lv a ∧ SnE T cl N lv as) (hc : ∀ a as, cond = .cons a as → SnE T cl N lv a) (he : SnE T cl N lv elt) : SnE T cl N lv (.comp t it src cond elt) := by
  have key : ∀ {sc X W}, Gd T cl W X N sc lv → ∀ b e, mE N (.comp t it src cond elt) sc e = true → PE X e (tE cl T b W (.comp t it src cond elt)) := fun {sc X W} G b e h => by
    obtain ⟨e1, tg, i, ifs, scope, p, rfl, C⟩ := comp_inv h
    obtain ⟨tt, ht, htt⟩ := comp_tests C G b hc
    have q := pe_lc (pos := p) G.calm (by rw [G.hN]; exact G.nd) (pi_src (tg := tg) G hs2 b C.oSrc hs) (by rw [G.hN, G.sc]; exact blkOk_by C.oBlk) (fun s H D cl' fp => (pg_of (b := b) (cl := cl) (Gt.blk G s H scope cl' D fp) t).1 tg C.oTg) ht (fun s H D cl' fp => he.e (G.blk s H scope cl' D fp) b e1 C.oElt) (fold_of C.oPl)
    rw [C.oOwn] at q
    exact PE.of q fun σ H Q z => comp_core htt z
  exact ⟨key, fun G b e _ h => pt_e (key G b e h) (by obtain ⟨_, _, _, _, _, _, rfl, _⟩ := comp_inv h; rfl), no_eA fun _ _ => rfl⟩
end
end DL
/-! DL20: EXPRESSIONS ARE SOUND. -/
namespace DL
open PySem PySem.Spec PyProof.Rows L2
section
variable {T : Tab} {cl : Str → Addr} {N : List Str} {lv : Nat}
theorem sne_mv {i : Nat} : SnE T cl N lv (.mv i) :=
  ⟨fun {sc X W} G b e h => by
    have inv : ∃ x p, e = .Name x p ∧ (decide (N[i]? = some x) && visB sc x && okN x) = true := by
      cases e with
      | Name x p => exact ⟨x, p, rfl, h⟩
      | _ => cases h
    obtain ⟨x, p, rfl, h⟩ := inv
    refine PE.of (okname G.toGq h) fun σ H Q ⟨ρ, ts, k, xc, R, w, x, f⟩ => ?_
    have w' : (match ρ[i]? with | some (some (d, o)) => k [.dat d o] (ρ.set i none) | _ => False) := w
    split at w'
    · rename_i d o e
      obtain ⟨v, h1, R'⟩ := R.move e
      exact ⟨v, h1, f _ _ w' v H trivial R'⟩
    · exact w'.elim, fun G b e ht h => (by cases ht), no_eA fun _ _ => rfl⟩
theorem sne_frz {a : M} (ha : SnE T cl N lv a) : SnE T cl N lv (.frz a) :=
  ⟨fun {sc X W} G b e h => PE.of (ha.e G b e h) fun σ H Q ⟨ρ, ts, k, xc, R, w, x, f⟩ => ⟨ρ, ts, _, xc, R, w, x, fun xs ρ' hk v H' ft R' => by
    split at hk
    · exact f _ _ hk v H' trivial (Rst.freeze1 R')
    · exact hk.elim⟩, fun G b e ht h => (by cases ht), no_eA fun _ _ => rfl⟩
structure SnA (T : Tab) (cl : Str → Addr) (N : List Str) (lv : Nat) (m : M) : Prop where
  e : SnE T cl N lv m
  o : SnO T cl N lv m
  k : SnK T cl N lv m
  d : SnD T cl N lv m
  c : ∀ a as, m = .cons a as → SnE T cl N lv a ∧ SnE T cl N lv as ∧ SnD T cl N lv as
theorem sna_of {m : M} (h : SnE T cl N lv m) (ho : ∀ sc o, mO N m sc o = false) (ha : ∀ sc es, mA N m sc es = false) (hd : ∀ sc ks vs, mD N m sc ks vs = false) (hc : ∀ a as, m ≠ .cons a as) : SnA T cl N lv m :=
  ⟨h, no_eO ho, no_eK ha, no_eD hd, fun a as e => absurd e (hc a as)⟩
theorem sna_cons {a as : M} (ha : SnA T cl N lv a) (has : SnA T cl N lv as) : SnA T cl N lv (.cons a as) := by
  refine ⟨sne_cons ha.e has.e, sno_cons ha.e, snk_cons ha.e has.k, ?_, fun a' as' e => by cases e; exact ⟨ha.e, has.e, has.d⟩⟩
  cases as with
  | cons b bs =>
    obtain ⟨h1, _, h3⟩ := has.c b bs rfl
    exact snd_cons ha.e h1 h3
  | _ =>
    refine no_eD fun sc ks vs => ?_
    match ks, vs with
    | [], [] => rfl
    | [], _ :: _ => rfl
    | none :: _, [] => rfl
    | some _ :: _, [] => rfl
    | none :: _, _ :: _ => rfl
    | some k :: _, _ :: _ => exact Bool.and_false _
theorem sndE (m : M) : SnA T cl N lv m := by
  induction m with
  | nil => exact ⟨sne_nil, sno_nil, snk_nil, snd_nil, fun _ _ e => by cases e⟩
  | cons a as ha has => exact sna_cons ha has
  | var i => exact sna_of sne_var (fun _ _ => rfl) (fun _ _ => rfl) (fun _ _ _ => rfl) fun _ _ e => by cases e
  | io i => exact sna_of sne_io (fun _ _ => rfl) (fun _ _ => rfl) (fun _ _ _ => rfl) fun _ _ e => by cases e
  | num n => exact sna_of sne_num (fun _ _ => rfl) (fun _ _ => rfl) (fun _ _ _ => rfl) fun _ _ e => by cases e
  | txt s => exact sna_of sne_txt (fun _ _ => rfl) (fun _ _ => rfl) (fun _ _ _ => rfl) fun _ _ e => by cases e
  | boo b => exact sna_of sne_boo (fun _ _ => rfl) (fun _ _ => rfl) (fun _ _ _ => rfl) fun _ _ e => by cases e
  | non => exact sna_of sne_non (fun _ _ => rfl) (fun _ _ => rfl) (fun _ _ _ => rfl) fun _ _ e => by cases e
  | gcon x => exact sna_of sne_gcon (fun _ _ => rfl) (fun _ _ => rfl) (fun _ _ _ => rfl) fun _ _ e => by cases e
  | bin o a b ha hb => exact sna_of (sne_bin ha.e hb.e) (fun _ _ => rfl) (fun _ _ => rfl) (fun _ _ _ => rfl) fun _ _ e => by cases e
  | neg a ha => exact sna_of (sne_neg ha.e) (fun _ _ => rfl) (fun _ _ => rfl) (fun _ _ _ => rfl) fun _ _ e => by cases e
  | cmp o a b ha hb => exact sna_of (sne_cmp ha.e hb.e) (fun _ _ => rfl) (fun _ _ => rfl) (fun _ _ _ => rfl) fun _ _ e => by cases e
  | chn o o' a b c ha hb hc => exact sna_of sne_chn (fun _ _ => rfl) (fun _ _ => rfl) (fun _ _ _ => rfl) fun _ _ e => by cases e
  | not a ha => exact sna_of (sne_not ha.e) (fun _ _ => rfl) (fun _ _ => rfl) (fun _ _ _ => rfl) fun _ _ e => by cases e
  | and a b ha hb => exact sna_of (sne_and ha.e hb.e) (fun _ _ => rfl) (fun _ _ => rfl) (fun _ _ _ => rfl) fun _ _ e => by cases e
  | or a b ha hb => exact sna_of (sne_or ha.e hb.e) (fun _ _ => rfl) (fun _ _ => rfl) (fun _ _ _ => rfl) fun _ _ e => by cases e
  | ite c a b hc ha hb => exact sna_of (sne_ite hc.e ha.e hb.e) (fun _ _ => rfl) (fun _ _ => rfl) (fun _ _ _ => rfl) fun _ _ e => by cases e
  | lst as ha => exact sna_of (sne_lst ha.e) (fun _ _ => rfl) (fun _ _ => rfl) (fun _ _ _ => rfl) fun _ _ e => by cases e
  | tup as ha => exact sna_of (sne_tup ha.e) (fun _ _ => rfl) (fun _ _ => rfl) (fun _ _ _ => rfl) fun _ _ e => by cases e
  | dic kvs h => exact sna_of (sne_dic h.d) (fun _ _ => rfl) (fun _ _ => rfl) (fun _ _ _ => rfl) fun _ _ e => by cases e
  | ixL a i ha hi => exact sna_of (sne_ixL ha.e hi.e) (fun _ _ => rfl) (fun _ _ => rfl) (fun _ _ _ => rfl) fun _ _ e => by cases e
  | ixD a i ha hi => exact sna_of sne_ixD (fun _ _ => rfl) (fun _ _ => rfl) (fun _ _ _ => rfl) fun _ _ e => by cases e
  | sliS a l h ha hl hh => exact sna_of (sne_sliS ha.e hl.o hh.o) (fun _ _ => rfl) (fun _ _ => rfl) (fun _ _ _ => rfl) fun _ _ e => by cases e
  | bi f as ha => exact sna_of (sne_bi ha.e) (fun _ _ => rfl) (fun _ _ => rfl) (fun _ _ _ => rfl) fun _ _ e => by cases e
  | isa a tys ha => exact sna_of sne_isa (fun _ _ => rfl) (fun _ _ => rfl) (fun _ _ _ => rfl) fun _ _ e => by cases e
  | lstOf a ha => exact sna_of (sne_lstOf ha.e) (fun _ _ => rfl) (fun _ _ => rfl) (fun _ _ _ => rfl) fun _ _ e => by cases e
  | join a b ha hb => exact sna_of (sne_join ha.e hb.e) (fun _ _ => rfl) (fun _ _ => rfl) (fun _ _ _ => rfl) fun _ _ e => by cases e
  | call f as kv sh ha hk => exact sna_of (sne_call ha.e hk.k) (fun _ _ => rfl) (fun _ _ => rfl) (fun _ _ _ => rfl) fun _ _ e => by cases e
  | comp t it src cond elt hs hc he => exact sna_of (sne_comp hs.e (fun a as e => let ⟨h1, h2, _⟩ := hs.c a as e; ⟨h1, h2⟩) (fun a as e => (hc.c a as e).1) he.e) (fun _ _ => rfl) (fun _ _ => rfl) (fun _ _ _ => rfl) fun _ _ e => by cases e
  | popAt pl i hp hi => exact sna_of (sne_popAt hi.e) (fun _ _ => rfl) (fun _ _ => rfl) (fun _ _ _ => rfl) fun _ _ e => by cases e
  | mv i => exact sna_of sne_mv (fun _ _ => rfl) (fun _ _ => rfl) (fun _ _ _ => rfl) fun _ _ e => by cases e
  | frz a ha => exact sna_of (sne_frz ha.e) (fun _ _ => rfl) (fun _ _ => rfl) (fun _ _ _ => rfl) fun _ _ e => by cases e
  | rep a ha => exact sna_of (sne_rep ha.e) (fun _ _ => rfl) (fun _ _ => rfl) (fun _ _ _ => rfl) fun _ _ e => by cases e
end
end DL
/-! DL21: statements, by values. -/
namespace DL
open PySem PySem.Spec PyProof.Rows L2
section
variable {T : Tab} {cl : Str → Addr} {N : List Str} {lv : Nat} {b : Bs} {σ : L2.St} {H H' : Hp} {ρ : DEnv} {ts us : List Cell} {W : WX} {X : Cx} {sc : Scope}
/-- slots that stay as they are -/
def Pin (pn : Nat → Option V) (σ : L2.St) : Prop := ∀ i v, pn i = some v → σ[i]? = some (some v)
variable {pn : Nat → Option V}
theorem Pin.set (h : Pin pn σ) {i : Nat} (hi : pn i = none) (x : Option V) : Pin pn (σ.set i x) := fun j v e => by
  by_cases q : i = j
  · subst q; rw [hi] at e; cases e
  · rw [List.getElem?_set_ne q]; exact h j v e
theorem wipe_ne {j : Nat} : ∀ {l : List Nat}, j ∉ l → (wipe σ l)[j]? = σ[j]?
  | [], _ => rfl
  | v :: l, h => by
    simp only [List.mem_cons, not_or] at h
    show ((wipe σ l).set v none)[j]? = _
    rw [List.getElem?_set_ne (Ne.symm h.1)]
    exact wipe_ne h.2
theorem Pin.wipe {l : List Nat} {σ1 : L2.St} (h : Pin pn σ) (hl : ∀ i ∈ l, pn i = none) (e : wipe σ1 l = wipe σ l) : Pin pn σ1 := fun j v q => by
  have hj : j ∉ l := fun z => by rw [hl j z] at q; cases q
  rw [← wipe_ne hj, e, wipe_ne hj]
  exact h j v q
/-- the slots that a statement stores -/
def S.sto : S → List Nat
  | .seq a b => a.sto ++ b.sto
  | .asg i _ => [i]
  | .asgs is _ => is
  | .asgT t _ => t.slots
  | .aug i _ _ => [i]
  | .ite _ a b => a.sto ++ b.sto
  | .loop t _ _ b => t.slots ++ b.sto
  | .while _ b => b.sto
  | _ => []
/-- the ends over data are the ends of the walk -/
structure Lk (cl : Str → Addr) (b : Bs) (W : WX) (pn : Nat → Option V) (ts : List Cell) (E : En) (D : Ends) : Prop where
  nx : ∀ ρ', E.nx ρ' → ∀ σ' H', Pin pn σ' → Rst cl b σ' H' ρ' ts → D.nx σ' H'
  rt : ∀ d o ρ', E.rt d o ρ' → ∀ v σ' H', Pin pn σ' → Rst cl b σ' H' ρ' (ts ++ [(v, d, o)]) → D.rt v H'
  bk : ∀ ρ', E.bk ρ' → ∀ σ' H', Pin pn σ' → Rst cl b σ' H' ρ' ts → D.bk σ' H'
  ct : ∀ ρ', E.ct ρ' → ∀ σ' H', Pin pn σ' → Rst cl b σ' H' ρ' ts → D.ct σ' H'
  xc : ∀ σ', Pin pn σ' → Xk cl b σ' W E.xc
def tS (cl : Str → Addr) (T : Tab) (b : Bs) (W : WX) (pn : Nat → Option V) (m : S) : TS := fun D σ H => ∃ (ρ : DEnv) (ts : List Cell) (E : En), Rst cl b σ H ρ ts ∧ Pin pn σ ∧ (∀ i ∈ m.sto, pn i = none) ∧ wS T m ρ E ∧ Lk cl b W pn ts E D
variable {D : Ends}
theorem s_skip (h : tS cl T b W pn .skip D σ H) : tNext D σ H := let ⟨ρ, ts, E, R, P, _, w, L⟩ := h; L.nx ρ w σ H P R
theorem s_brk (h : tS cl T b W pn .brk D σ H) : tBreak D σ H := let ⟨ρ, ts, E, R, P, _, w, L⟩ := h; L.bk ρ w σ H P R
theorem s_cont (h : tS cl T b W pn .cont D σ H) : tCont D σ H := let ⟨ρ, ts, E, R, P, _, w, L⟩ := h; L.ct ρ w σ H P R
theorem s_seq {a c : S} (h : tS cl T b W pn (.seq a c) D σ H) : tSeq (tS cl T b W pn a) (tS cl T b W pn c) D σ H :=
  let ⟨ρ, ts, E, R, P, ns, w, L⟩ := h
  ⟨ρ, ts, { E with nx := fun ρ1 => wS T c ρ1 E }, R, P, fun i hi => ns i (List.mem_append_left _ hi), w, ⟨fun ρ' h σ' H' P' R' => ⟨ρ', ts, E, R', P', fun i hi => ns i (List.mem_append_right _ hi), h, L⟩, L.rt, L.bk, L.ct, L.xc⟩⟩
theorem s_exp {e : M} (h : tS cl T b W pn (.exp e) D σ H) : tDrop (tE cl T b W e) D σ H :=
  let ⟨ρ, ts, E, R, P, _, w, L⟩ := h
  ⟨ρ, ts, _, E.xc, R, w, L.xc σ P, fun xs ρ' hk v H' ft R' => L.nx ρ' hk σ H' P R'.drop⟩
theorem s_asg {i : Nat} {e : M} (h : tS cl T b W pn (.asg i e) D σ H) : tAsg (tE cl T b W e) (gName i) D σ H := by
  obtain ⟨ρ, ts, E, R, P, ns, w, L⟩ := h
  refine ⟨ρ, ts, _, E.xc, R, w, L.xc σ P, fun xs ρ' hk v H' ft R' => ?_⟩
  split at hk
  · exact L.nx _ hk _ H' (P.set (ns i List.mem_cons_self) _) (Rst.store' R' i)
  · exact hk.elim
theorem s_ite {c : M} {a d : S} (h : tS cl T b W pn (.ite c a d) D σ H) : tIfS (tET cl T b W c) (tS cl T b W pn a) (tS cl T b W pn d) D σ H := by
  obtain ⟨ρ, ts, E, R, P, ns, w, L⟩ := h
  refine ⟨ρ, ts, _, E.xc, R, w, L.xc σ P, fun xs ρ' hk => ?_⟩
  split at hk
  · refine ⟨_, _, rfl, truth_mono hk fun t q H' R' => ?_⟩
    cases t with
    | true => exact ⟨ρ', ts, E, R', P, fun i hi => ns i (List.mem_append_left _ hi), q, L⟩
    | false => exact ⟨ρ', ts, E, R', P, fun i hi => ns i (List.mem_append_right _ hi), q, L⟩
  · exact hk.elim
theorem s_while {c : M} {a : S} (h : tS cl T b W pn (.while c a) D σ H) : tWhile (tET cl T b W c) (tS cl T b W pn a) D σ H := by
  obtain ⟨ρ, ts, E, R, P, ns, ⟨V, ⟨m0, v0⟩, w⟩, L⟩ := h
  refine ⟨fun m σ H => ∃ ρ, Rst cl b σ H ρ ts ∧ Pin pn σ ∧ V m ρ, ⟨m0, ρ, R, P, v0⟩, fun m σ H ⟨ρ, R, P, v⟩ => ?_⟩
  refine ⟨ρ, ts, _, E.xc, R, w m ρ v, L.xc σ P, fun xs ρ' hk => ?_⟩
  split at hk
  · refine ⟨_, _, rfl, truth_mono hk fun t q H' R' => ?_⟩
    cases t with
    | true =>
      refine ⟨fun σ' H' => ∃ m', m' < m ∧ ∃ ρ, Rst cl b σ' H' ρ ts ∧ Pin pn σ' ∧ V m' ρ, fun _ _ h => h, ρ', ts, _, R', P, ns, q, ⟨?_, L.rt, L.nx, ?_, L.xc⟩⟩
      · exact fun ρ2 ⟨m', h1, h2⟩ σ' H' P2 R2 => ⟨m', h1, ρ2, R2, P2, h2⟩
      · exact fun ρ2 ⟨m', h1, h2⟩ σ' H' P2 R2 => ⟨m', h1, ρ2, R2, P2, h2⟩
    | false => exact L.nx _ q σ H' P R'
  · exact hk.elim
theorem s_loop {t : Tg} {it : It} {src : M} {a : S} (h : tS cl T b W pn (.loop t it src a) D σ H) : tFor (tI cl T b W it src) (tG cl b t) (tS cl T b W pn a) D σ H := by
  obtain ⟨ρ, ts, E, R, P, ns, w, L⟩ := h
  refine ⟨ρ, ts, _, E.xc, R, w, L.xc σ P, fun items ρ1 hk J H1 us R1 ⟨G, Y, wk, dr⟩ => ?_⟩
  refine for_it wk (fun i σ H => ∃ ρ2, Rst cl b σ H ρ2 (ts ++ us) ∧ Pin pn σ ∧ forW (fun ρ2 k => wS T a ρ2 { E with nx := k, ct := k, bk := E.nx }) t E.nx (items.drop i) ρ2) ⟨ρ1, R1, P, hk⟩ ?_ ?_ ?_
  · rintro i σ H _ ⟨ρ2, R2, _, _⟩
    exact (dr b σ H ρ2 [] (by rw [List.append_nil]; exact R2)).1
  · rintro i x σ H H2 hi ⟨ρ2, R2, P, f⟩ hy
    obtain ⟨e, d, ed, R3⟩ := (dr b σ H ρ2 [] (by rw [List.append_nil]; exact R2)).2 i x H2 hy
    subst e
    rw [List.append_nil] at R3
    obtain ⟨hi', ed'⟩ := List.getElem?_eq_some_iff.mp ed
    rw [List.drop_eq_getElem_cons hi', ed'] at f
    have f : (match tgW t d ρ2 with | some ρ1 => wS T a ρ1 { E with nx := forW (fun ρ2 k => wS T a ρ2 { E with nx := k, ct := k, bk := E.nx }) t E.nx (items.drop (i + 1)), ct := forW (fun ρ2 k => wS T a ρ2 { E with nx := k, ct := k, bk := E.nx }) t E.nx (items.drop (i + 1)), bk := E.nx } | none => False) := f
    split at f
    · rename_i ρ3 et
      refine ⟨ρ2, ρ3, _, d, R3, et, fun σ1 R4 w1 => ⟨ρ3, ts ++ us, _, R4, P.wipe (fun i hi => ns i (List.mem_append_left _ hi)) (w1 t.slots fun _ h => h), fun i hi => ns i (List.mem_append_right _ hi), f, ⟨fun ρ4 h σ' H' P5 R5 => ⟨ρ4, R5, P5, h⟩, fun d o ρ4 h v σ' H' P5 R5 => L.rt d o ρ4 h v σ' H' P5 (Rst.skipL R5), fun ρ4 h σ' H' P5 R5 => L.nx ρ4 h σ' H' P5 R5.drop, fun ρ4 h σ' H' P5 R5 => ⟨ρ4, R5, P5, h⟩, L.xc⟩⟩⟩
    · exact f.elim
  · rintro σ H ⟨ρ2, R2, P, f⟩
    rw [List.drop_length] at f
    exact L.nx ρ2 f σ H P R2.drop
/-- return of a name: what it holds goes out -/
theorem s_retV {i : Nat} (h : tS cl T b W pn (.ret (.var i)) D σ H) : tRet (tVar i) D σ H := by
  obtain ⟨ρ, ts, E, R, P, ns, w, L⟩ := h
  have w' : (match ρ[i]? with | some (some (d, o)) => E.rt d o (ρ.set i none) | _ => False) := w
  split at w'
  · rename_i d o e
    obtain ⟨v, ev, R'⟩ := R.move e
    exact ⟨v, ev, L.rt d o _ w' v σ H P R'⟩
  · exact w'.elim
theorem s_ret {e : M} (he : ∀ i, e ≠ .var i) (h : tS cl T b W pn (.ret e) D σ H) : tRet (tE cl T b W e) D σ H := by
  obtain ⟨ρ, ts, E, R, P, ns, w, L⟩ := h
  have w' : wE T e ρ (fun xs ρ1 => match xs with | [.dat d o] => E.rt d o ρ1 | _ => False) E.xc := by
    cases e with
    | var i => exact absurd rfl (he i)
    | _ => exact w
  refine ⟨ρ, ts, _, E.xc, R, w', L.xc σ P, fun xs ρ' hk v H' ft R' => ?_⟩
  split at hk
  · exact L.rt _ _ _ hk v σ H' P R'
  · exact hk.elim
end
end DL
/-! DL22: statements that store. -/
namespace DL
open PySem PySem.Spec PyProof.Rows L2
section
variable {T : Tab} {cl : Str → Addr} {N : List Str} {lv : Nat} {b : Bs} {σ : L2.St} {H H' : Hp} {ρ : DEnv} {ts us : List Cell} {W : WX} {X : Cx} {sc : Scope} {D : Ends} {pn : Nat → Option V}
theorem s_setL {pl i e : M} (h : tS cl T b W pn (.setL pl i e) D σ H) : tAsg (tE cl T b W e) (gSub (tP cl T pl) (tB cl T i) rSetL) D σ H := by
  obtain ⟨ρ, ts, E, R, P, ns, w, L⟩ := h
  refine ⟨ρ, ts, _, E.xc, R, w, L.xc σ P, fun xs ρ1 hk v H1 ft R1 => ?_⟩
  split at hk
  · rename_i x ox
    have R1 : Rst cl b σ H1 ρ1 (ts ++ [(v, x, ox)]) := R1
    refine ⟨ρ1, _, R1.rdb, hk.2.2, fun s p d o hk2 vo H2 s2 pa => ⟨ρ1, _, R1.rdb.ext s2, hk2, fun y hk3 u H3 s3 ry => ?_⟩⟩
    split at hk3
    · rename_i ds j ej
      cases ej
      obtain ⟨n, d0, o0, ho, hc, e0, en, kk⟩ := hk3
      cases ry
      have R3 := R1.ext (fun a o e => s3 a o (s2 a o e))
      obtain ⟨at_, va⟩ := (pa.ext s3).va e0
      obtain ⟨a, vs, rfl, ha, l⟩ := R3.nodeL e0 at_ va ho
      refine ⟨a, vs, j, n, rfl, rfl, ha, by rw [← l]; exact en, L.nx _ kk σ _ P (Rst.setL R3 e0 at_ va ho rfl ha ?_ hc)⟩
      have := (ixN_seq en).2.1
      exact this
    · exact hk3.elim
  · exact hk.elim
theorem s_setD {pl i e : M} (h : tS cl T b W pn (.setD pl i e) D σ H) : tAsg (tE cl T b W e) (gSub (tP cl T pl) (tB cl T i) rSetD) D σ H := by
  obtain ⟨ρ, ts, E, R, P, ns, w, L⟩ := h
  refine ⟨ρ, ts, _, E.xc, R, w, L.xc σ P, fun xs ρ1 hk v H1 ft R1 => ?_⟩
  split at hk
  · rename_i x ox
    have R1 : Rst cl b σ H1 ρ1 (ts ++ [(v, x, ox)]) := R1
    refine ⟨ρ1, _, R1.rdb, hk.2.2, fun s p d o hk2 vo H2 s2 pa => ⟨ρ1, _, R1.rdb.ext s2, hk2, fun y hk3 u H3 s3 ry => ?_⟩⟩
    split at hk3
    · rename_i kvs y ey
      cases ey
      obtain ⟨key, d0, o0, ho, hc, e0, ek, hz, kk⟩ := hk3
      have eu := key_v ry ek
      subst eu
      have R3 := R1.ext (fun a o e => s3 a o (s2 a o e))
      obtain ⟨at_, va⟩ := (pa.ext s3).va e0
      obtain ⟨a, ws, rfl, ha, l⟩ := R3.nodeD e0 at_ va ho
      have lw := len_keys l
      exact ⟨a, _, rfl, DPut.k ha (by omega), L.nx _ kk σ _ P (Rst.setD R3 e0 at_ va ho rfl ha hc)⟩
    · exact hk3.elim
  · exact hk.elim
/-- l.append(e), l a name -/
theorem s_appV {s : Nat} {e : M} (h : tS cl T b W pn (.app (.var s) e) D σ H) : tDrop (tBM X.K "list" rAppend (tVar s) (tCons (tE cl T b W e) tNil)) D σ H := by
  obtain ⟨ρ, ts, E, R, P, ns, ⟨⟨ds0, o0, e0⟩, w⟩, L⟩ := h
  obtain ⟨v, ev, rv⟩ := R.rdb s _ _ e0
  refine ⟨v, ev, tyV_lst (X := X) rv, ρ, ts, _, E.xc, R, w, L.xc σ P, fun xs ρ1 hk u H1 ft R1 => ?_⟩
  split at hk
  · rename_i x ox ds oo e1
    obtain ⟨ho, hc, hz, kk⟩ := hk
    have R1 : Rst cl b σ H1 ρ1 (ts ++ [(u, x, ox)]) := R1
    have va : ∀ v0, σ[s]? = some (some v0) → VAt H1 v0 (.lst ds) [] v := fun v0 q => by rw [ev] at q; cases q; exact VAt.nil
    obtain ⟨a, vs, rfl, ha, l⟩ := R1.nodeL e1 At.nil va ho
    exact ⟨a, vs, u, rfl, rfl, ha, by omega, L.nx _ kk σ _ P (Rst.append R1 e1 At.nil va ho rfl ha hc)⟩
  · exact hk.elim
/-- l.append(e), l a place, e a scalar -/
theorem s_appP {pl e : M} (hp : pl.isVar = false) (h : tS cl T b W pn (.app pl e) D σ H) : tDrop (tBM X.K "list" rAppend (tP cl T pl) (tCons (tB cl T e) tNil)) D σ H := by
  obtain ⟨ρ, ts, E, R, P, ns, w, L⟩ := h
  have w' : (pl.isPl && pl.quiet) = true ∧ e.quiet = true ∧ plW T pl ρ fun s p d o => match d with
      | .lst ds => wB T e ρ fun ys => match ys with
        | [x] => x.flat = true ∧ ∃ d0 o0, o ≠ .sh ∧ ρ[s]? = some (some (d0, o0)) ∧ ds.length < sizeLine ∧ E.nx (ρ.set s (some (d0.updAt p (.lst (ds ++ [x])), o0)))
        | _ => False
      | _ => False := by
    cases pl with
    | var i => cases hp
    | _ => exact w
  refine ⟨ρ, _, R.rdb, w'.2.2, fun s p d o hk v H1 s1 pa => ?_⟩
  split at hk
  · rename_i ds
    refine ⟨tyV_lst (X := X) (pa.read (R.rdb.ext s1)), ρ, _, R.rdb.ext s1, hk, fun x hk2 u H2 s2 rx => ?_⟩
    have hk2 : x.flat = true ∧ ∃ d0 o0, o ≠ .sh ∧ ρ[s]? = some (some (d0, o0)) ∧ ds.length < sizeLine ∧ E.nx (ρ.set s (some (d0.updAt p (.lst (ds ++ [x])), o0))) := hk2
    obtain ⟨fx, d0, o0, ho, e0, hz, kk⟩ := hk2
    have eu := flat_v rx fx
    subst eu
    have R2 := (R.ext (fun a o e => s2 a o (s1 a o e))).flat fx
    obtain ⟨at_, va⟩ := (pa.ext s2).va e0
    obtain ⟨a, vs, rfl, ha, l⟩ := R2.nodeL e0 at_ va ho
    exact ⟨a, vs, x.toV, rfl, rfl, ha, by omega, L.nx _ kk σ _ P (Rst.append R2 e0 at_ va ho rfl ha (.inl fx))⟩
  · exact hk.elim
end
end DL
/-! DL23: x o= y. -/
namespace DL
open PySem PySem.Spec PyProof.Rows L2
section
variable {T : Tab} {cl : Str → Addr} {N : List Str} {lv : Nat} {b : Bs} {σ : L2.St} {H H' : Hp} {ρ : DEnv} {ts us : List Cell} {W : WX} {X : Cx} {sc : Scope} {D : Ends} {pn : Nat → Option V}
def tipD (cl : Str → Addr) (o : BOp) : TIp := fun x y H Q => ∃ d e, Rs cl all H d x ∧ Rs cl all H e y ∧ augW o d e fun r => r.flat = true → Q r.toV H
theorem ip_d (o : BOp) : PIp X o.py (tipD cl o) := by
  intro pins s σ H x y v u Q I rx ry h
  obtain ⟨d, e, r1, r2, h⟩ := h
  unfold augW at h
  split at h
  · cases r1; cases r2
    exact ip_add pins s σ H _ _ v u Q I rx ry ⟨_, _, rfl, rfl, h rfl⟩
  · cases r1; cases r2
    exact iop_add_str pins s σ H _ _ v u Q I rx ry ⟨_, _, rfl, rfl, h.1, h.2 rfl⟩
  · cases r1; cases r2
    exact ip_sub pins s σ H _ _ v u Q I rx ry ⟨_, _, rfl, rfl, h rfl⟩
  · exact h.elim
theorem s_aug {i : Nat} {o : BOp} {e : M} (h : tS cl T b W pn (.aug i o e) D σ H) : tAug i (tE cl T b W e) (tipD cl o) D σ H := by
  obtain ⟨ρ, ts, E, R, P, ns, ⟨⟨d0, o0, e0⟩, w⟩, L⟩ := h
  obtain ⟨v, ev, _⟩ := R.rdb i _ _ e0
  refine ⟨v, ev, ρ, ts, _, E.xc, R, w, L.xc σ P, fun xs ρ1 hk u H1 ft R1 => ?_⟩
  split at hk
  · rename_i x ox y oy e1
    have R1 : Rst cl b σ H1 ρ1 (ts ++ [(u, y, oy)]) := R1
    obtain ⟨v', ev', rv⟩ := R1.rdb i _ _ e1
    rw [ev] at ev'; cases ev'
    refine ⟨x, y, rv, R1.read1, ?_⟩
    have key : ∀ {k k' : DL.D → Prop}, augW o x y k → (∀ r, k r → k' r) → augW o x y k' := fun {k k'} h m => by
      unfold augW at h ⊢
      split at h <;> first | exact m _ h | exact ⟨h.1, m _ h.2⟩ | exact h.elim
    exact key hk fun r kr fr => L.nx _ kr _ H1 (P.set (ns i List.mem_cons_self) _) (Rst.store' (R1.drop.flat fr) i)
  · exact hk.elim
end
end DL
/-! DL24: what of the program's text an S stands for (mS). -/
namespace DL
open PySem PySem.Spec PyProof.Rows L2
def noC : Expr → Bool
  | .ListComp .. => false
  | .SetComp .. => false
  | .DictComp .. => false
  | _ => true
theorem sw_no {e : Expr} {t : Option Expr} {l : Nat} {env : Env} (h : noC e = true) : swapsWith e t l env = pure false := by
  cases e <;> first | rfl | cases h
def M.isComp : M → Bool
  | .comp .. => true
  | _ => false
def nmL (N : List Str) (sc : Scope) : List Nat → List Expr → Bool
  | [], [] => true
  | i :: is, .Name x _ :: es => decide (N[i]? = some x) && locB sc x && nmL N sc is es
  | _, _ => false
def notT : Expr → Bool
  | .Tuple .. => false
  | _ => true
def ploc (sc : Scope) (l : Nat) : Expr → Bool
  | .Name x p => (sc.names.lookup x == some .local) && (p.line == l)
  | _ => false
/-- the stores of a written tuple: by a tuple, or swapped -/
def swOk (sc : Scope) (ts vs : List Expr) : Bool :=
  decide (ts.length ≠ 2 ∧ ts.length ≠ 3) || ts.any (fun e => !ploc sc ((ts.head?.map (·.pos.line)).getD 0) e) || vs.all (foldedForSure 8) ||
    (ts.all (ploc sc ((ts.head?.map (·.pos.line)).getD 0)) && decide (vs.length = ts.length) && !vs.all (constantsAlone 8) && decide (sc.kind = .function))
mutual
def mS (N : List Str) : S → Scope → Stmt → Bool
  | .asg i e, sc, .Assign [.Name x _] v _ => decide (N[i]? = some x) && locB sc x && (noC v || (e.isComp && decide (sc.kind = .function))) && mE N e sc v
  | .asgs is e, sc, .Assign [.Tuple tgs _ _] (.Tuple es _ _) _ => nmL N sc is tgs && decide (is.Nodup ∧ is.length ≤ 8) && mA N e sc es && swOk sc tgs es
  | .asgT t e, sc, .Assign [.Tuple tgs j p] v _ => mTg N t sc (.Tuple tgs j p) && noC v && notT v && mE N e sc v
  | .stuck, _, _ => true
  | .setL pl i e, sc, .Assign [.Subscript o f _] v _ => pl.isPl && pl.quiet && i.quiet && mE N pl sc o && mE N i sc f && plainE f && noC v && mE N e sc v
  | .setD pl i e, sc, .Assign [.Subscript o f _] v _ => pl.isPl && pl.quiet && i.quiet && mE N pl sc o && mE N i sc f && plainE f && noC v && mE N e sc v
  | .app pl e, sc, .Expr (.Call (.Attribute o m q) [v] [] p) _ => decide (m = ("append" : Str)) && mE N pl sc o && baseE o && plainE v && mE N e sc v && (q.endLine == p.line)
  | .aug i o e, sc, .AugAssign (.Name x _) op v _ => decide (op = o.py) && decide (N[i]? = some x) && locB sc x && mE N e sc v
  | .exp e, sc, .Expr v _ => noC v && mE N e sc v
  | .ite c a b, sc, .If e as bs _ => c.tst && mE N c sc e && mSs N a sc as && mSs N b sc bs
  | .loop t it src b, sc, .For tg iter body [] _ => mTg N t sc tg && plainE iter && mI N it src sc iter && mSs N b sc body
  | .while c b, sc, .While e body [] _ => c.tst && mE N c sc e && mSs N b sc body
  | .ret e, sc, .Return (some v) _ => mE N e sc v
  | .brk, _, .Break _ => true
  | .cont, _, .Continue _ => true
  | _, _, _ => false
def mSs (N : List Str) : S → Scope → List Stmt → Bool
  | .skip, _, [] => true
  | .seq a b, sc, st :: rest => mS N a sc st && mSs N b sc rest
  | _, _, _ => false
end
section
variable {T : Tab} {cl : Str → Addr} {N : List Str} {lv : Nat} {b : Bs} {W : WX} {X : Cx} {sc : Scope}
theorem PS.of {s : Stmt} {t t' : TS} (h : PS X s t) (i : ∀ D σ H, t' D σ H → t D σ H) : PS X s t' := ⟨fun pins s σ H D I q => h.run pins s σ H D I (i D σ H q)⟩
theorem PSs.of {s : List Stmt} {t t' : TS} (h : PSs X s t) (i : ∀ D σ H, t' D σ H → t D σ H) : PSs X s t' := ⟨fun pins s σ H D I q => h.run pins s σ H D I (i D σ H q)⟩
structure SnS (T : Tab) (cl : Str → Addr) (N : List Str) (lv : Nat) (m : S) : Prop where
  s : ∀ {sc X W pn}, Gd T cl W X N sc lv → Gt X N sc → ∀ b st, mS N m sc st = true → PS X st (tS cl T b W pn m)
  ss : ∀ {sc X W pn}, Gd T cl W X N sc lv → Gt X N sc → ∀ b st, mSs N m sc st = true → PSs X st (tS cl T b W pn m)
theorem sns_seq {a c : S} (ha : SnS T cl N lv a) (hc : SnS T cl N lv c) : SnS T cl N lv (.seq a c) := by
  refine ⟨fun {sc X W pn} G Gt b st h => (by cases st <;> cases h), fun {sc X W pn} G Gt b st h => ?_⟩
  cases st with
  | nil => cases h
  | cons s rest =>
    obtain ⟨h1, h2⟩ := ba (show (mS N a sc s && mSs N c sc rest) = true from h)
    exact PSs.of (pss_cons (ha.s G Gt b s h1) (hc.ss G Gt b rest h2)) fun D σ H q => s_seq q
theorem sns_skip : SnS T cl N lv .skip := by
  refine ⟨fun {sc X W pn} G Gt b st h => (by cases st <;> cases h), fun {sc X W pn} G Gt b st h => ?_⟩
  cases st with
  | nil => exact PSs.of pss_nil fun D σ H q => s_skip q
  | cons s rest => cases h
end
end DL
/-! DL25: statements are sound, one by one. -/
namespace DL
open PySem PySem.Spec PyProof.Rows L2
section
variable {T : Tab} {cl : Str → Addr} {N : List Str} {lv : Nat} {b : Bs} {W : WX} {X : Cx} {sc : Scope}
theorem no_ss {m : S} (h : ∀ sc st, mSs N m sc st = false) {sc X W pn} (_ : Gd T cl W X N sc lv) (_ : Gt X N sc) (b : Bs) (st : List Stmt) (q : mSs N m sc st = true) : PSs X st (tS cl T b W pn m) := by rw [h] at q; cases q
theorem sns_brk : SnS T cl N lv .brk := by
  refine ⟨fun {sc X W pn} G Gt b st h => ?_, no_ss fun _ st => by cases st <;> rfl⟩
  cases st with
  | Break p => exact PS.of ps_break fun D σ H q => s_brk q
  | _ => cases h
theorem sns_cont : SnS T cl N lv .cont := by
  refine ⟨fun {sc X W pn} G Gt b st h => ?_, no_ss fun _ st => by cases st <;> rfl⟩
  cases st with
  | Continue p => exact PS.of ps_continue fun D σ H q => s_cont q
  | _ => cases h
theorem sns_exp {e : M} : SnS T cl N lv (.exp e) := by
  refine ⟨fun {sc X W pn} G Gt b st h => ?_, no_ss fun _ st => by cases st <;> rfl⟩
  cases st with
  | Expr v p =>
    obtain ⟨h1, h2⟩ := ba (show (noC v && mE N e sc v) = true from h)
    exact PS.of (ps_expr ((sndE e).e.e G b v h2) (sw_no h1)) fun D σ H q => s_exp q
  | _ => cases h
theorem sns_ite {c : M} {a d : S} (ha : SnS T cl N lv a) (hd : SnS T cl N lv d) : SnS T cl N lv (.ite c a d) := by
  refine ⟨fun {sc X W pn} G Gt b st h => ?_, no_ss fun _ st => by cases st <;> rfl⟩
  cases st with
  | If e as bs p =>
    obtain ⟨h, h4⟩ := ba (show (c.tst && mE N c sc e && mSs N a sc as && mSs N d sc bs) = true from h)
    obtain ⟨h, h3⟩ := ba h
    obtain ⟨h1, h2⟩ := ba h
    exact PS.of (ps_if ((sndE c).e.t G b e h1 h2) (ha.ss G Gt b as h3) (hd.ss G Gt b bs h4)) fun D σ H q => s_ite q
  | _ => cases h
theorem sns_while {c : M} {a : S} (ha : SnS T cl N lv a) : SnS T cl N lv (.while c a) := by
  refine ⟨fun {sc X W pn} G Gt b st h => ?_, no_ss fun _ st => by cases st <;> rfl⟩
  cases st with
  | While e body els p =>
    cases els with
    | nil =>
      obtain ⟨h, h3⟩ := ba (show (c.tst && mE N c sc e && mSs N a sc body) = true from h)
      obtain ⟨h1, h2⟩ := ba h
      exact PS.of (ps_while G.own ((sndE c).e.t G b e h1 h2) (ha.ss G Gt b body h3)) fun D σ H q => s_while q
    | cons _ _ => cases h
  | _ => cases h
theorem sns_loop {t : Tg} {it : It} {src : M} {a : S} (ha : SnS T cl N lv a) : SnS T cl N lv (.loop t it src a) := by
  refine ⟨fun {sc X W pn} G Gt b st h => ?_, no_ss fun _ st => by cases st <;> rfl⟩
  cases st with
  | For tg iter body els p =>
    cases els with
    | nil =>
      obtain ⟨h, h4⟩ := ba (show (mTg N t sc tg && plainE iter && mI N it src sc iter && mSs N a sc body) = true from h)
      obtain ⟨h, h3⟩ := ba h
      obtain ⟨h1, h2⟩ := ba h
      exact PS.of (ps_for G.own G.calm (pi_src (tg := tg) G (fun a as e => let ⟨h1, h2, _⟩ := (sndE src).c a as e; ⟨h1, h2⟩) b h3 (sndE src).e) ((pg_of Gt t).1 tg h1) (ha.ss G Gt b body h4) (fold_of h2)) fun D σ H q => s_loop q
    | cons _ _ => cases h
  | _ => cases h
theorem sns_asg {i : Nat} {e : M} : SnS T cl N lv (.asg i e) := by
  refine ⟨fun {sc X W pn} G Gt b st h => ?_, no_ss fun _ st => by cases st <;> rfl⟩
  cases st with
  | Assign tgs v p =>
    match tgs, h with
    | [.Name x q], h =>
      obtain ⟨h, h4⟩ := ba (show (decide (N[i]? = some x) && locB sc x && (noC v || (e.isComp && decide (sc.kind = .function))) && mE N e sc v) = true from h)
      obtain ⟨h, h3⟩ := ba h
      obtain ⟨h1, h2⟩ := ba h
      obtain ⟨l1, l2⟩ := Gt.loc x h2
      have plain : swapsWith v (some (.Name x q)) p.line X.env = pure false → PS X (.Assign [.Name x q] v p) (tS cl T b W pn (.asg i e)) := fun hs =>
        PS.of (ps_set (i := i) (by rw [Gt.hN]; exact Gt.nd) (by rw [Gt.hN]; exact dec_eq h1) l1 ((sndE e).e.e G b v h4) hs l2) fun D σ H q => s_asg q
      rcases Bool.or_eq_true_iff.mp h3 with h3 | h3
      · exact plain (sw_no h3)
      · obtain ⟨z1, z2⟩ := ba h3
        cases e with
        | comp t it src cond elt =>
          obtain ⟨e1, tg, ie, ifs, scope, p1, rfl, C⟩ := comp_inv h4
          have hk : X.env.scope.kind = .function := by rw [G.sc]; exact of_decide_eq_true z2
          have hb : X.env.blockKind = .function := by unfold Env.blockKind; rw [hk]; rfl
          have sw : swapsWith (.ListComp e1 [⟨tg, ie, ifs, 0⟩] scope p1) (some (.Name x q)) p.line X.env = pure (X.env.kindOf x == some .local && q.line == p1.line && !(scope.names.any fun (n, k) => n == x && (k == .local || k == .cell))) := by
            unfold swapsWith
            simp only [hb, Expr.pos]
            rfl
          cases hv : (X.env.kindOf x == some .local && q.line == p1.line && !(scope.names.any fun (n, k) => n == x && (k == .local || k == .cell))) with
          | false => rw [hv] at sw; exact plain sw
          | true =>
            rw [hv] at sw
            have hl : X.env.scope.names.lookup x = some .local := by
              simp only [Bool.and_eq_true, beq_iff_eq] at hv
              exact hv.1.1
            obtain ⟨tt, ht, htt⟩ := comp_tests C G b fun a as e => ((sndE cond).c a as e).1
            have r := ps_setLc (i := i) (spos := p) (pos := p1) G.calm (by rw [G.hN]; exact G.nd) (by rw [Gt.hN]; exact dec_eq h1) hl sw (pi_src (tg := tg) G (fun a as e => let ⟨h1, h2, _⟩ := (sndE src).c a as e; ⟨h1, h2⟩) b C.oSrc (sndE src).e) (by rw [G.hN, G.sc]; exact blkOk_by C.oBlk) (fun s H D cl' fp => (pg_of (b := b) (cl := cl) (DL.Gt.blk G s H scope cl' D fp) t).1 tg C.oTg) ht (fun s H D cl' fp => (sndE elt).e.e (G.blk s H scope cl' D fp) b e1 C.oElt) (fold_of C.oPl)
            rw [C.oOwn] at r
            exact PS.of r fun D σ H q => comp_core htt (s_asg q)
        | _ => cases z1
  | _ => cases h
theorem sns_ret {e : M} : SnS T cl N lv (.ret e) := by
  refine ⟨fun {sc X W pn} G Gt b st h => ?_, no_ss fun _ st => by cases st <;> rfl⟩
  cases st with
  | Return v p =>
    cases v with
    | none => cases h
    | some v =>
      have h : mE N e sc v = true := h
      by_cases hv : ∃ i, e = .var i
      · obtain ⟨i, rfl⟩ := hv
        obtain ⟨x, q, rfl, h⟩ := name_inv h
        exact PS.of (ps_ret (okname G.toGq h)) fun D σ H q => s_retV q
      · exact PS.of (ps_ret ((sndE e).e.e G b v h)) fun D σ H q => s_ret (fun i e => hv ⟨i, e⟩) q
  | _ => cases h
end
end DL
/-! DL25A: several targets. -/
namespace DL
open PySem PySem.Spec PyProof.Rows L2
/-! ### the text -/
def setV : L2.St → List Nat → List V → L2.St
  | σ, i :: is, v :: vs => setV (σ.set i (some v)) is vs
  | σ, _, _ => σ
theorem setV_set {i : Nat} {x : Option V} : ∀ {is : List Nat} {vs : List V} {σ : L2.St}, i ∉ is → setV (σ.set i x) is vs = (setV σ is vs).set i x
  | [], vs, σ, _ => by cases vs <;> rfl
  | j :: is, [], σ, _ => rfl
  | j :: is, v :: vs, σ, h => by
    simp only [List.mem_cons, not_or] at h
    show setV ((σ.set i x).set j (some v)) is vs = (setV (σ.set j (some v)) is vs).set i x
    rw [List.set_comm _ _ h.1, setV_set h.2]
theorem setV_append : ∀ {is js : List Nat} {vs ws : List V} {σ : L2.St}, is.length = vs.length → setV σ (is ++ js) (vs ++ ws) = setV (setV σ is vs) js ws
  | [], js, [], ws, σ, _ => rfl
  | i :: is, js, v :: vs, ws, σ, h => setV_append (is := is) (by simpa using h)
  | [], _, _ :: _, _, _, h => by simp at h
  | _ :: _, _, [], _, _, h => by simp at h
theorem setV_rev : ∀ {is : List Nat} {vs : List V} {σ : L2.St}, is.Nodup → is.length = vs.length → setV σ is.reverse vs.reverse = setV σ is vs
  | [], [], σ, _, _ => rfl
  | i :: is, v :: vs, σ, nd, h => by
    rw [List.nodup_cons] at nd
    rw [List.reverse_cons, List.reverse_cons, setV_append (by simpa using h), setV_rev nd.2 (by simpa using h)]
    show (setV σ is vs).set i (some v) = setV (σ.set i (some v)) is vs
    rw [setV_set nd.1]
  | [], _ :: _, _, _, h => by simp at h
  | _ :: _, [], _, _, h => by simp at h
theorem setV_pin {pn : Nat → Option V} : ∀ {is : List Nat} {vs : List V} {σ : L2.St}, Pin pn σ → (∀ i ∈ is, pn i = none) → Pin pn (setV σ is vs)
  | [], vs, σ, h, _ => by cases vs <;> exact h
  | _ :: _, [], σ, h, _ => h
  | i :: is, v :: vs, σ, h, q => setV_pin (is := is) (vs := vs) (h.set (q i List.mem_cons_self) _) fun j hj => q j (List.mem_cons_of_mem _ hj)
/-- plain locals, their names -/
inductive PNm (N : List Str) (sc : Scope) : List Nat → List Str → Prop where
  | nil : PNm N sc [] []
  | cons {i : Nat} {x : Str} {is : List Nat} {xs : List Str} : N[i]? = some x → sc.names.lookup x = some .local → PNm N sc is xs → PNm N sc (i :: is) (x :: xs)
theorem PNm.append {N : List Str} {sc : Scope} {is js : List Nat} {xs ys : List Str} (h : PNm N sc is xs) (h' : PNm N sc js ys) : PNm N sc (is ++ js) (xs ++ ys) := by
  induction h with
  | nil => exact h'
  | cons a b _ ih => exact .cons a b ih
theorem PNm.rev {N : List Str} {sc : Scope} {is : List Nat} {xs : List Str} (h : PNm N sc is xs) : PNm N sc is.reverse xs.reverse := by
  induction h with
  | nil => exact .nil
  | cons a b _ ih =>
    rw [List.reverse_cons, List.reverse_cons]
    exact ih.append (.cons a b .nil)
section
variable {T : Tab} {cl : Str → Addr} {N : List Str} {lv : Nat} {b : Bs} {σ : L2.St} {H H' : Hp} {ρ : DEnv} {ts us : List Cell} {W : WX} {X : Cx} {sc : Scope} {D : Ends} {pn : Nat → Option V}
theorem run_stores (nd : X.N.Nodup) {pins : List (Addr × Obj)} {Q : Unit → Shared → Prop} {E : Value → Shared → Prop} : ∀ {is : List Nat} {xs : List Str}, PNm X.N X.env.scope is xs → ∀ {vs : List V} {us : List Value} {σ : L2.St} {s : Shared}, Vals vs us → is.length = vs.length → Inv X pins σ H s →
    (∀ s', Inv X pins (setV σ is vs) H s' → Q () s') → wpAny (model X.prog X.w) X.A (assignInOrder (xs.map fun n => bindName X.env n) us) Q E s
  | _, _, .nil, vs, us, σ, s, r, l, I, f => by
    cases vs with
    | cons _ _ => simp at l
    | nil =>
      cases r
      exact assignInOrder_nil (f s I)
  | _, _, .cons (i := i) (x := x) (is := is) (xs := xs) h1 h2 h, vs, us, σ, s, r, l, I, f => by
    cases vs with
    | nil => simp at l
    | cons v vs =>
      cases r with
      | cons r rs =>
        refine assignInOrder_cons (wpAny_bindName (store_ok I nd h1 (.inl h2) r (fun s2 I2 => ?_) (.inr h2)))
        exact run_stores nd h rs (by simpa using l) I2 f
def tPars (is : List Nat) (ta : TA) : TS := fun D σ H => ta σ H fun vs H1 => is.length = vs.length ∧ D.nx (setV σ is vs) H1
theorem ps_pars {is : List Nat} {xs : List Str} {tgs es : List Expr} {ta : TA} {kt k2 : Nat} {pt p2 pos : Pos} (hc : X.calm = true) (nd : X.N.Nodup) (ni : is.Nodup) (hn : PNm X.N X.env.scope is xs) (ha : PA X es ta) (hz : is.length ≤ 3)
    (hw : swappedStores [.Tuple tgs kt pt] (.Tuple es k2 p2) X.env = pure (some xs)) : PS X (.Assign [.Tuple tgs kt pt] (.Tuple es k2 p2) pos) (tPars is ta) := by
  refine ⟨fun pins s σ H D I h => ?_⟩
  refine Assign_Tuple_swapped (names := xs) ?_ rfl hw
  refine Tuple_ (thn (ha.run _ pins s σ H _ I h) fun us s1 ⟨vs, H1, I1, r1, l1, q1⟩ => ?_)
  have lz : is.length = xs.length := by
    have key : ∀ {is : List Nat} {xs : List Str}, PNm X.N X.env.scope is xs → is.length = xs.length := fun h => by
      induction h with
      | nil => rfl
      | cons _ _ _ ih => simp [ih]
    exact key hn
  have lu := r1.length
  refine wpAny_newObj_type ?_ (by
    show us.toArray.size ≤ sizeLine
    rw [List.size_toArray, ← lu, ← l1]
    exact Nat.le_trans hz (by decide))
  have I2 : Inv X pins σ H1 { s1 with heap := s1.heap.push { cls := .type "tuple", data := .seq us.toArray } } := I1.kept (t' := s1.toks) fun b o e => Heap.get?_push_of_some _ e
  rw [show xs.length = us.toArray.size from by rw [List.size_toArray, ← lu, ← l1, lz]]
  refine unpackItems_tuple (items := us.toArray) (I.ok.hd hc) (IsTup.new s1.heap _) fun h' hx' => ?_
  have I3 := I2.kept (h' := h') (t' := s1.toks) fun b o e => hx' b o (Nat.ne_of_lt (Heap.lt_size e)) e
  have rr : Vals vs.reverse us.reverse := by
    have key : ∀ {vs : List V} {us : List Value}, Vals vs us → Vals vs.reverse us.reverse := fun h => by
      induction h with
      | nil => exact .nil
      | cons a _ ih => rw [List.reverse_cons, List.reverse_cons]; exact ih.append (.cons a .nil)
    exact key r1
  refine run_stores nd hn.rev rr (by simp [l1]) I3 fun s' I4 => ?_
  rw [setV_rev ni l1] at I4
  exact ⟨_, H1, I4, q1⟩
/-! ### the things at hand, stored -/
theorem Rst.rot {c : Cell} (R : Rst cl b σ H ρ (ts ++ c :: us)) : Rst cl b σ H ρ (ts ++ us ++ [c]) := by
  obtain ⟨S, F, fs, s, W⟩ := R
  let g : Sum Nat Nat → SetA := fun p x => match p with
    | .inl _ => False
    | .inr k => if k < us.length then fs (.inr (ts.length + (k + 1))) x else k = us.length ∧ fs (.inr ts.length) x
  have gk : ∀ {k x}, g (.inr k) x → (k < us.length ∧ fs (.inr (ts.length + (k + 1))) x) ∨ (k = us.length ∧ fs (.inr ts.length) x) := fun {k x} h => by
    have h : (if k < us.length then fs (.inr (ts.length + (k + 1))) x else k = us.length ∧ fs (.inr ts.length) x) := h
    split at h
    · exact .inl ⟨by assumption, h⟩
    · exact .inr h
  refine Exists.elim (W.turn (S' := S) (us' := us ++ [c]) (H' := H) (F' := F) noJ g (fun _ _ => rfl) (fun _ _ e _ => e) (fun _ h => h) (fun _ h => .inl h) W.aF (fun _ _ _ _ z => z.elim) (fun k v d o e => ?_) (fun _ _ z => z.elim) (fun k x h => ?_) (fun p x h => ?_) (fun p q x h1 h2 => ?_)) fun fs' W' => ?_
  · by_cases hk : k < us.length
    · rw [List.getElem?_append_left hk] at e
      have r := W.temp (k := k + 1) (by simpa using e)
      have ef : g (.inr k) = fs (.inr (ts.length + (k + 1))) := funext fun x => by
        show (if k < us.length then fs (.inr (ts.length + (k + 1))) x else _) = _
        rw [if_pos hk]
      rw [ef]; exact r
    · rw [List.getElem?_append_right (by omega)] at e
      have hk2 : k = us.length := by
        have := (List.getElem?_eq_some_iff.mp e).1
        simp at this; omega
      subst hk2
      simp at e
      have r := W.temp (k := 0) (by rw [e]; rfl)
      have ef : g (.inr us.length) = fs (.inr (ts.length + 0)) := funext fun x => by
        show (if us.length < us.length then fs (.inr (ts.length + (us.length + 1))) x else us.length = us.length ∧ fs (.inr ts.length) x) = _
        rw [if_neg (Nat.lt_irrefl _)]
        simp
      rw [ef]; exact r
  · rcases gk h with ⟨h1, _⟩ | ⟨h1, _⟩
    · simp; omega
    · simp; omega
  · cases p with
    | inl i => exact h.elim
    | inr k =>
      rcases gk h with ⟨h1, h2⟩ | ⟨h1, h2⟩
      · exact ⟨.inl (Held.temp h2 (by omega)), W.df _ x h2⟩
      · exact ⟨.inl (Held.temp h2 (Nat.le_refl _)), W.df _ x h2⟩
  · cases p with
    | inl i => exact h1.elim
    | inr k =>
      cases q with
      | inl i => exact h2.elim
      | inr j =>
        rcases gk h1 with ⟨a1, a2⟩ | ⟨a1, a2⟩ <;> rcases gk h2 with ⟨b1, b2⟩ | ⟨b1, b2⟩
        · have := Sum.inr.inj (W.dj _ _ x a2 b2)
          rw [show k = j by omega]
        · have := Sum.inr.inj (W.dj _ _ x a2 b2)
          omega
        · have := Sum.inr.inj (W.dj _ _ x a2 b2)
          omega
        · rw [a1, b1]
  · rw [← List.append_assoc] at W'
    exact ⟨S, F, fs', s, W'⟩
theorem Rst.store1 {v : V} {d : DL.D} {o : Ow} (R : Rst cl b σ H ρ (ts ++ (v, d, o) :: us)) (i : Nat) : Rst cl b (σ.set i (some v)) H (ρ.set i (some (d, o))) (ts ++ us) := R.rot.store' i
theorem Rst.storeAll : ∀ {is : List Nat} {xs : List Arg} {vs : List V} {σ : L2.St} {ρ ρ2 : DEnv}, setAll ρ is xs = some ρ2 → vs.length = xs.length → Rst cl b σ H ρ (ts ++ cellsOf vs xs) → is.length = vs.length ∧ Rst cl b (setV σ is vs) H ρ2 ts
  | [], [], vs, σ, ρ, ρ2, e, l, R => by
    cases e
    cases vs with
    | nil => exact ⟨rfl, by simpa [cellsOf, setV] using R⟩
    | cons _ _ => simp at l
  | i :: is, .dat d o :: xs, vs, σ, ρ, ρ2, e, l, R => by
    cases vs with
    | nil => simp at l
    | cons v vs =>
      obtain ⟨h1, h2⟩ := Rst.storeAll (is := is) (xs := xs) (vs := vs) e (by simpa using l) (Rst.store1 (us := cellsOf vs xs) R i)
      exact ⟨by simp [h1], h2⟩
  | [], _ :: _, _, _, _, _, e, _, _ => by cases e
  | _ :: _, [], _, _, _, _, e, _, _ => by cases e
  | _ :: _, .slot _ :: _, _, _, _, _, e, _, _ => by cases e
/-! ### the statement, by values -/
theorem s_asgsW {is : List Nat} {e : M} (h : tS cl T b W pn (.asgs is e) D σ H) : tPars is (tEA cl T b W e) D σ H := by
  obtain ⟨ρ, ts, E, R, P, ns, w, L⟩ := h
  refine ⟨ρ, ts, _, E.xc, R, w, L.xc σ P, fun xs ρ' hk vs H' ft R' => ?_⟩
  split at hk
  · rename_i ρ2 e
    obtain ⟨h1, h2⟩ := Rst.storeAll e ft.length R'
    exact ⟨h1, L.nx _ hk _ H' (setV_pin P ns) h2⟩
  · exact hk.elim
def gNms : List Nat → TGs
  | [] => gNil
  | i :: is => gCons (gName i) (gNms is)
theorem gNms_run : ∀ {is : List Nat} {vs : List V} {σ : L2.St} {H : Hp} {Q : L2.St → Hp → Prop}, is.length = vs.length → Q (setV σ is vs) H → gNms is vs σ H Q
  | [], [], _, _, _, _, q => ⟨rfl, q⟩
  | i :: is, v :: vs, _, _, _, l, q => ⟨v, vs, rfl, gNms_run (is := is) (by simpa using l) q⟩
  | [], _ :: _, _, _, _, l, _ => by simp at l
  | _ :: _, [], _, _, _, l, _ => by simp at l
theorem s_asgsT {is : List Nat} {e : M} (h : tS cl T b W pn (.asgs is e) D σ H) (hz : is.length ≤ sizeLine) : tAsg (tTup (tEA cl T b W e)) (gTup X.K is.length (gNms is)) D σ H := by
  obtain ⟨ρ, ts, E, R, P, ns, w, L⟩ := h
  refine ⟨ρ, ts, _, E.xc, R, w, L.xc σ P, fun xs ρ' hk vs H' ft R' => ?_⟩
  split at hk
  · rename_i ρ2 e
    obtain ⟨h1, h2⟩ := Rst.storeAll e ft.length R'
    refine ⟨by omega, fun p hp => ⟨p, vs, rfl, .inl (.inl upd_same), h1.symm, gNms_run h1 ?_⟩⟩
    exact L.nx _ hk _ _ (setV_pin P ns) (h2.ext (upd_keep hp))
  · exact hk.elim
theorem s_asgT {t : Tg} {e : M} (h : tS cl T b W pn (.asgT t e) D σ H) : tAsg (tE cl T b W e) (tG cl b t) D σ H := by
  obtain ⟨ρ, ts, E, R, P, ns, w, L⟩ := h
  refine ⟨ρ, ts, _, E.xc, R, w, L.xc σ P, fun xs ρ' hk v H' ft R' => ?_⟩
  split at hk
  · rename_i d o
    split at hk
    · rename_i ρ2 e
      exact ⟨ρ', ρ2, ts, d, Rst.freeze1 R', e, fun σ1 R1 w1 => L.nx _ hk σ1 H' (P.wipe ns (w1 t.slots fun _ h => h)) R1⟩
    · exact hk.elim
  · exact hk.elim
/-! ### the text -/
theorem nmL_pgs (G : Gt X N sc) : ∀ {is : List Nat} {es : List Expr}, nmL N sc is es = true → PGs X es (gNms is) ∧ (assignEach es X.env).length = is.length ∧ (assignEach es X.env).findIdx? (·.1) = none
  | [], [], _ => ⟨pgs_nil, rfl, rfl⟩
  | [], _ :: _, h => by cases h
  | _ :: _, [], h => by cases h
  | i :: is, e :: es, h => by
    cases e with
    | Name x p =>
      obtain ⟨h, h3⟩ := ba (show (decide (N[i]? = some x) && locB sc x && nmL N sc is es) = true from h)
      obtain ⟨h1, h2⟩ := ba h
      obtain ⟨l1, l2⟩ := G.loc x h2
      obtain ⟨q1, q2, q3⟩ := nmL_pgs G (is := is) h3
      refine ⟨pgs_cons (pg_name (i := i) (by rw [G.hN]; exact G.nd) (by rw [G.hN]; exact dec_eq h1) l1 l2) q1 rfl, ?_, ?_⟩
      · show (assignEach es X.env).length + 1 = _
        rw [q2]; rfl
      · show List.findIdx? (·.1) ((false, assign (.Name x p) X.env) :: assignEach es X.env) = none
        rw [List.findIdx?_cons]
        simp [q3]
    | _ => cases h
def nmsOf : List Expr → List Str
  | .Name x _ :: es => x :: nmsOf es
  | _ :: es => nmsOf es
  | [] => []
theorem nmL_pnm {l : Nat} : ∀ {is : List Nat} {es : List Expr}, nmL N sc is es = true → es.all (ploc sc l) = true → PNm N sc is (nmsOf es) ∧ es.length = is.length
  | [], [], _, _ => ⟨.nil, rfl⟩
  | [], _ :: _, h, _ => by cases h
  | _ :: _, [], h, _ => by cases h
  | i :: is, e :: es, h, hp => by
    cases e with
    | Name x p =>
      obtain ⟨h, h3⟩ := ba (show (decide (N[i]? = some x) && locB sc x && nmL N sc is es) = true from h)
      obtain ⟨h1, h2⟩ := ba h
      rw [List.all_cons] at hp
      obtain ⟨p1, p2⟩ := ba hp
      obtain ⟨p3, _⟩ := ba (show ((sc.names.lookup x == some .local) && (p.line == l)) = true from p1)
      obtain ⟨q1, q2⟩ := nmL_pnm (is := is) h3 p2
      exact ⟨.cons (dec_eq h1) (by simpa using p3) q1, by simp [q2]⟩
    | _ => cases h
theorem nmL_len : ∀ {is : List Nat} {es : List Expr}, nmL N sc is es = true → es.length = is.length
  | [], [], _ => rfl
  | [], _ :: _, h => by cases h
  | _ :: _, [], h => by cases h
  | i :: is, e :: es, h => by
    cases e with
    | Name x p =>
      obtain ⟨_, h3⟩ := ba (show (decide (N[i]? = some x) && locB sc x && nmL N sc is es) = true from h)
      simp [nmL_len (is := is) h3]
    | _ => cases h
/-- the names that are stored swapped -/
def fmN (env : Env) (l : Nat) (ts : List Expr) : List Str := ts.filterMap fun
  | .Name id pos => if env.kindOf id == some .local && pos.line == l then some id else none
  | _ => none
theorem fm_all {env : Env} {l : Nat} : ∀ {ts : List Expr}, ts.all (ploc env.scope l) = true → fmN env l ts = nmsOf ts ∧ (nmsOf ts).length = ts.length
  | [], _ => ⟨rfl, rfl⟩
  | e :: es, h => by
    rw [List.all_cons] at h
    obtain ⟨h1, h2⟩ := ba h
    cases e with
    | Name x p =>
      obtain ⟨i1, i2⟩ := fm_all (ts := es) h2
      have h1 : (env.kindOf x == some .local && p.line == l) = true := h1
      refine ⟨?_, by show (nmsOf es).length + 1 = _; rw [i2]; rfl⟩
      show List.filterMap _ _ = x :: nmsOf es
      rw [List.filterMap_cons]
      simp only [h1, if_true]
      exact congrArg _ i1
    | _ => cases h1
theorem fm_any {env : Env} {l : Nat} : ∀ {ts : List Expr}, (fmN env l ts).length ≤ ts.length ∧ (ts.any (fun e => !ploc env.scope l e) = true → (fmN env l ts).length < ts.length)
  | [] => ⟨Nat.le_refl _, fun h => by cases h⟩
  | e :: es => by
    obtain ⟨i1, i2⟩ := fm_any (ts := es)
    by_cases hp : ploc env.scope l e = true
    · cases e with
      | Name x p =>
        have h1 : (env.kindOf x == some .local && p.line == l) = true := hp
        have q : fmN env l (.Name x p :: es) = x :: fmN env l es := by
          show List.filterMap _ _ = _
          rw [List.filterMap_cons]
          simp only [h1, if_true]
          rfl
        rw [q]
        refine ⟨by simpa using i1, fun h => ?_⟩
        rw [List.any_cons, hp] at h
        have := i2 (by simpa using h)
        simpa using this
      | _ => cases hp
    · have q : fmN env l (e :: es) = fmN env l es := by
        show List.filterMap _ _ = _
        rw [List.filterMap_cons]
        have z : (match e with
          | .Name id pos => if env.kindOf id == some .local && pos.line == l then some id else none
          | _ => none) = none := by
          cases e with
          | Name x p =>
            have h1 : ¬ (env.kindOf x == some .local && p.line == l) = true := hp
            simp only [h1, Bool.false_eq_true, if_false]
          | _ => rfl
        rw [z]; rfl
      rw [q]
      exact ⟨by simp; omega, fun _ => by simp; omega⟩
theorem sw_cases {tgs es : List Expr} {k k2 : Nat} {p p2 : Pos} (h : swOk X.env.scope tgs es = true) (hst : ∀ e ∈ es, plainE e = true) (nd : (nmsOf tgs).Nodup) :
    swappedStores [.Tuple tgs k p] (.Tuple es k2 p2) X.env = pure none ∨ (tgs.all (ploc X.env.scope ((tgs.head?.map (·.pos.line)).getD 0)) = true ∧ tgs.length ≤ 3 ∧ swappedStores [.Tuple tgs k p] (.Tuple es k2 p2) X.env = pure (some (nmsOf tgs))) := by
  unfold swOk at h
  simp only [Bool.or_eq_true, decide_eq_true_eq] at h
  obtain ⟨r, e⟩ : ∃ r, swappedStores [.Tuple tgs k p] (.Tuple es k2 p2) X.env = r := ⟨_, rfl⟩
  have e2 := e
  unfold swappedStores at e2
  simp only [pure_bind] at e2
  rw [e]
  split at e2
  · exact .inl e2.symm
  · rename_i c1
    simp only [Bool.or_eq_true, Bool.not_eq_true', bne_iff_ne, ne_eq, not_or, Decidable.not_not, Bool.not_eq_false, beq_iff_eq] at c1
    split at e2
    · exact .inl e2.symm
    · have e3 : (if ((fmN X.env ((tgs.head?.map (·.pos.line)).getD 0) tgs).length != tgs.length || (fmN X.env ((tgs.head?.map (·.pos.line)).getD 0) tgs).eraseDups.length != (fmN X.env ((tgs.head?.map (·.pos.line)).getD 0) tgs).length) = true then pure none
        else if es.all (foldedForSure 8) = true then pure none else if es.all (constantsAlone 8) = true then unsupported "assign.tuple-of-constant-expressions:order-of-the-stores" >>= fun _ => pure (some (fmN X.env ((tgs.head?.map (·.pos.line)).getD 0) tgs)) else pure (some (fmN X.env ((tgs.head?.map (·.pos.line)).getD 0) tgs))) = r := e2
      split at e3
      · exact .inl e3.symm
      · rename_i c3
        split at e3
        · exact .inl e3.symm
        · rename_i c4
          rcases h with ((h | h) | h) | h
          · rcases c1.1.1 with q | q <;> simp [q] at h
          · have := (fm_any (env := X.env) (l := (tgs.head?.map (·.pos.line)).getD 0) (ts := tgs)).2 h
            simp only [Bool.or_eq_true, bne_iff_ne, ne_eq, not_or, Decidable.not_not] at c3
            omega
          · exact absurd h c4
          · simp only [Bool.and_eq_true, Bool.not_eq_true', decide_eq_true_eq] at h
            obtain ⟨⟨⟨h1, h2⟩, h3⟩, h4⟩ := h
            refine .inr ⟨h1, by rcases c1.1.1 with q | q <;> omega, ?_⟩
            rw [if_neg (by rw [h3]; decide), (fm_all (env := X.env) h1).1] at e3
            exact e3.symm
theorem nmL_nodup (nd : N.Nodup) : ∀ {is : List Nat} {es : List Expr}, nmL N sc is es = true → is.Nodup → (nmsOf es).Nodup ∧ ∀ x ∈ nmsOf es, ∃ i ∈ is, N[i]? = some x
  | [], [], _, _ => ⟨List.nodup_nil, fun x h => by cases h⟩
  | [], _ :: _, h, _ => by cases h
  | _ :: _, [], h, _ => by cases h
  | i :: is, e :: es, h, ni => by
    cases e with
    | Name x p =>
      obtain ⟨h, h3⟩ := ba (show (decide (N[i]? = some x) && locB sc x && nmL N sc is es) = true from h)
      obtain ⟨h1, _⟩ := ba h
      rw [List.nodup_cons] at ni
      obtain ⟨i1, i2⟩ := nmL_nodup nd (is := is) h3 ni.2
      refine ⟨List.nodup_cons.mpr ⟨fun hx => ?_, i1⟩, fun y hy => ?_⟩
      · obtain ⟨j, hj, e⟩ := i2 x hx
        have h1 := dec_eq h1
        have hi := (List.getElem?_eq_some_iff.mp h1).1
        have : i = j := (List.getElem?_inj hi nd).mp (h1.trans e.symm)
        subst this
        exact ni.1 hj
      · rcases List.mem_cons.mp hy with rfl | hy
        · exact ⟨i, List.mem_cons_self, dec_eq h1⟩
        · obtain ⟨j, hj, e⟩ := i2 y hy
          exact ⟨j, List.mem_cons_of_mem _ hj, e⟩
    | _ => cases h
theorem sns_asgs {is : List Nat} {e : M} : SnS T cl N lv (.asgs is e) := by
  refine ⟨fun {sc X W pn} G Gt b st h => ?_, no_ss fun _ st => by cases st <;> rfl⟩
  cases st with
  | Assign tgs v p =>
    match tgs, v, h with
    | [.Tuple ts k q], .Tuple es k2 q2, h =>
      obtain ⟨h, h4⟩ := ba (show (nmL N sc is ts && decide (is.Nodup ∧ is.length ≤ 8) && mA N e sc es && swOk sc ts es) = true from h)
      obtain ⟨h, h3⟩ := ba h
      obtain ⟨h1, h2⟩ := ba h
      obtain ⟨p1, p2, p3⟩ := nmL_pgs Gt h1
      rw [← G.sc] at h4
      have h2 := of_decide_eq_true h2
      rcases sw_cases (k := k) (k2 := k2) (p := q) (p2 := q2) h4 (mA_plain h3) (nmL_nodup Gt.nd h1 h2.1).1 with hw | ⟨a1, a2, hw⟩
      · exact PS.of (ps_asg (pe_tup ((sndE e).e.a G b es h3)) (pg_tup Gt.calm p1 p2 p3) rfl hw rfl) fun D σ H q => s_asgsT q (Nat.le_trans h2.2 (by decide))
      · have a1' := a1
        rw [G.sc] at a1'
        obtain ⟨b1, b2⟩ := nmL_pnm h1 a1'
        rw [← G.sc, ← Gt.hN] at b1
        exact PS.of (ps_pars Gt.calm (by rw [Gt.hN]; exact Gt.nd) h2.1 b1 ((sndE e).e.a G b es h3) (by rw [← b2]; exact a2) hw) fun D σ H q => s_asgsW q
    | [.Tuple _ _ _], .Name _ _, h => cases h
  | _ => cases h
theorem sns_asgT {t : Tg} {e : M} : SnS T cl N lv (.asgT t e) := by
  refine ⟨fun {sc X W pn} G Gt b st h => ?_, no_ss fun _ st => by cases st <;> rfl⟩
  cases st with
  | Assign tgs v p =>
    match tgs, h with
    | [.Tuple ts k q], h =>
      obtain ⟨h, h4⟩ := ba (show (mTg N t sc (.Tuple ts k q) && noC v && notT v && mE N e sc v) = true from h)
      obtain ⟨h, h3⟩ := ba h
      obtain ⟨h1, h2⟩ := ba h
      have hw : swappedStores [.Tuple ts k q] v X.env = pure none := by
        cases v <;> first | rfl | cases h3
      exact PS.of (ps_asg ((sndE e).e.e G b v h4) ((pg_of Gt t).1 _ h1) (show swapsWith v (some (.Tuple ts k q)) p.line X.env = pure false from sw_no h2) hw rfl) fun D σ H q => s_asgT q
  | _ => cases h
theorem sns_stuck : SnS T cl N lv .stuck := by
  refine ⟨fun {sc X W pn} G Gt b st h => ⟨fun pins s σ H D I ⟨ρ, ts, E, R, P, ns, w, L⟩ => ?_⟩, no_ss fun _ st => by cases st <;> rfl⟩
  exact (show False from w).elim
end
end DL
/-! DL26: stores; EVERY S IS SOUND. -/
namespace DL
open PySem PySem.Spec PyProof.Rows L2
section
variable {T : Tab} {cl : Str → Addr} {N : List Str} {lv : Nat} {b : Bs} {W : WX} {X : Cx} {sc : Scope}
theorem sns_aug {i : Nat} {o : BOp} {e : M} : SnS T cl N lv (.aug i o e) := by
  refine ⟨fun {sc X W pn} G Gt b st h => ?_, no_ss fun _ st => by cases st <;> rfl⟩
  cases st with
  | AugAssign tg op v p =>
    cases tg with
    | Name x q =>
      obtain ⟨h, h4⟩ := ba (show (decide (op = o.py) && decide (N[i]? = some x) && locB sc x && mE N e sc v) = true from h)
      obtain ⟨h, h3⟩ := ba h
      obtain ⟨h1, h2⟩ := ba h
      obtain ⟨l1, l2⟩ := Gt.loc x h3
      cases dec_eq h1
      exact PS.of (ps_aug (i := i) (by rw [Gt.hN]; exact Gt.nd) (by rw [Gt.hN]; exact dec_eq h2) l1 ((sndE e).e.e G b v h4) (ip_d (cl := cl) o) l2) fun D σ H q => s_aug q
    | _ => cases h
  | _ => cases h
theorem sub_asg {o f v : Expr} {q p : Pos} {te to ti : TE} {t : TSet} (hf : plainE f = true) (hv : noC v = true) (he : PE X v te) (ho : PE X o to) (hi : PE X f ti) (hs : PSet X t) : PS X (.Assign [.Subscript o f q] v p) (tAsg te (gSub to ti t)) :=
  ps_asg he (pg_sub ho hi hs (by intro w; cases f <;> first | rfl | cases hf)) (show swapsWith v (some (.Subscript o f q)) p.line X.env = pure false from sw_no hv) rfl rfl
theorem sns_setL {pl i e : M} : SnS T cl N lv (.setL pl i e) := by
  refine ⟨fun {sc X W pn} G Gt b st h => ?_, no_ss fun _ st => by cases st <;> rfl⟩
  cases st with
  | Assign tgs v p =>
    match tgs, h with
    | [.Subscript o f q], h =>
      obtain ⟨h, h8⟩ := ba (show (pl.isPl && pl.quiet && i.quiet && mE N pl sc o && mE N i sc f && plainE f && noC v && mE N e sc v) = true from h)
      obtain ⟨h, h7⟩ := ba h
      obtain ⟨h, h6⟩ := ba h
      obtain ⟨h, h5⟩ := ba h
      obtain ⟨h, h4⟩ := ba h
      obtain ⟨h, h3⟩ := ba h
      obtain ⟨h1, h2⟩ := ba h
      exact PS.of (sub_asg h6 h7 ((sndE e).e.e G b v h8) (sndP (cl := cl) (T := T) pl G.toGq h1 h2 o h4) ((sndB (T := T) (cl := cl) i sc X G.toGq h3).1 f h5) set_list) fun D σ H q => s_setL q
  | _ => cases h
theorem sns_setD {pl i e : M} : SnS T cl N lv (.setD pl i e) := by
  refine ⟨fun {sc X W pn} G Gt b st h => ?_, no_ss fun _ st => by cases st <;> rfl⟩
  cases st with
  | Assign tgs v p =>
    match tgs, h with
    | [.Subscript o f q], h =>
      obtain ⟨h, h8⟩ := ba (show (pl.isPl && pl.quiet && i.quiet && mE N pl sc o && mE N i sc f && plainE f && noC v && mE N e sc v) = true from h)
      obtain ⟨h, h7⟩ := ba h
      obtain ⟨h, h6⟩ := ba h
      obtain ⟨h, h5⟩ := ba h
      obtain ⟨h, h4⟩ := ba h
      obtain ⟨h, h3⟩ := ba h
      obtain ⟨h1, h2⟩ := ba h
      exact PS.of (sub_asg h6 h7 ((sndE e).e.e G b v h8) (sndP (cl := cl) (T := T) pl G.toGq h1 h2 o h4) ((sndB (T := T) (cl := cl) i sc X G.toGq h3).1 f h5) (set_dict (by have := G.un; omega))) fun D σ H q => s_setD q
  | _ => cases h
theorem app_inv {pl e : M} {st : Stmt} (h : mS N (.app pl e) sc st = true) : ∃ o q v p r, st = .Expr (.Call (.Attribute o "append" q) [v] [] p) r ∧ mE N pl sc o = true ∧ baseE o = true ∧ plainE v = true ∧ mE N e sc v = true ∧ (q.endLine == p.line) = true := by
  cases st with
  | Expr w r =>
    cases w with
    | Call g es ks p =>
      cases g with
      | Attribute o m q =>
        match es, ks, h with
        | [v], [], h =>
          obtain ⟨h, h6⟩ := ba (show (decide (m = ("append" : Str)) && mE N pl sc o && baseE o && plainE v && mE N e sc v && (q.endLine == p.line)) = true from h)
          obtain ⟨h, h5⟩ := ba h
          obtain ⟨h, h4⟩ := ba h
          obtain ⟨h, h3⟩ := ba h
          obtain ⟨h1, h2⟩ := ba h
          cases dec_eq h1
          exact ⟨o, q, v, p, r, rfl, h2, h3, h4, h5, h6⟩
        | [], _, h => cases h
        | [_], _ :: _, h => cases h
        | _ :: _ :: _, _, h => cases h
      | _ => cases h
    | _ => cases h
  | _ => cases h
theorem sns_app {pl e : M} : SnS T cl N lv (.app pl e) := by
  refine ⟨fun {sc X W pn} G Gt b st h => ?_, no_ss fun _ st => by cases st <;> rfl⟩
  obtain ⟨o, q, v, p, r, rfl, h1, h2, h3, h4, h5⟩ := app_inv h
  by_cases hv : ∃ s, pl = .var s
  · obtain ⟨s, rfl⟩ := hv
    obtain ⟨x, p0, rfl, h1⟩ := name_inv h1
    exact PS.of (ps_expr (pe_bm PySem.F.plainAttrs_list PySem.F.slot_list_append PySem.F.type_list_append mt_append (okname G.toGq h1) (pa_cons ((sndE e).e.e G b v h4) pa_nil (star_of h3)) (base_of h2) (few1 h3) h5 (star_of h3) rfl) rfl) fun D σ H q => s_appV q
  · have hp : pl.isVar = false := by
      cases pl <;> first | rfl | exact absurd ⟨_, rfl⟩ hv
    have no : ∀ {P : Prop} {D : Ends} {σ : L2.St} {H : Hp}, (pl.isPl && pl.quiet) = false ∨ e.quiet = false → tS cl T b W pn (.app pl e) D σ H → P := fun {P D σ H} hq ⟨ρ, ts, E, R, _, _, w, L⟩ => by
      have w' : (pl.isPl && pl.quiet) = true ∧ e.quiet = true := by
        cases pl with
        | var i => cases hp
        | _ => exact ⟨w.1, w.2.1⟩
      rcases hq with q | q
      · rw [q] at w'; cases w'.1
      · rw [q] at w'; cases w'.2
    cases q1 : pl.isPl && pl.quiet with
    | false => exact ⟨fun pins s σ H D I z => no (.inl q1) z⟩
    | true =>
      cases q2 : e.quiet with
      | false => exact ⟨fun pins s σ H D I z => no (.inr q2) z⟩
      | true =>
        obtain ⟨z1, z2⟩ := ba q1
        exact PS.of (ps_expr (pe_bm PySem.F.plainAttrs_list PySem.F.slot_list_append PySem.F.type_list_append mt_append (sndP (cl := cl) (T := T) pl G.toGq z1 z2 o h1) (pa_cons ((sndB (T := T) (cl := cl) e sc X G.toGq q2).1 v h4) pa_nil (star_of h3)) (base_of h2) (few1 h3) h5 (star_of h3) rfl) rfl) fun D σ H q => s_appP hp q
theorem sndS (m : S) : SnS T cl N lv m := by
  induction m with
  | skip => exact sns_skip
  | seq a c ha hc => exact sns_seq ha hc
  | asg i e => exact sns_asg
  | asgs is e => exact sns_asgs
  | asgT t e => exact sns_asgT
  | stuck => exact sns_stuck
  | setL pl i e => exact sns_setL
  | setD pl i e => exact sns_setD
  | app pl e => exact sns_app
  | aug i o e => exact sns_aug
  | exp e => exact sns_exp
  | ite c a d ha hd => exact sns_ite ha hd
  | loop t it src a ha => exact sns_loop ha
  | «while» c a ha => exact sns_while ha
  | ret e => exact sns_ret
  | brk => exact sns_brk
  | cont => exact sns_cont
end
end DL
/-! DL27: a def keeps its contract. -/
namespace DL
open PySem PySem.Spec PyProof.Rows L2
/-- what stands in the module: constants, built-ins unshadowed, the defs of the table -/
structure Bd (T : Tab) (cl : Str → Addr) (P : Program) (w : World) (K : PySem.W.Frag) (mg : Str → Option Value) (base : Heap) (lv : Nat) : Prop where
  con : ∀ x d, T.con x = some d → ∃ u, mg x = some u ∧ RelV d.toV u
  bi : ∀ x ∈ biNames, mg x = none
  fn : ∀ f con, T.fn f = some con → ∃ a fd ps ds, mg f = some (.ref a) ∧ PySem.W.keepIn K (.ref a) = true ∧ Vals (con.dfl.map D.toV) ds ∧ con.dfl.all D.flat = true ∧ (∀ sh ∈ con.shp, BindsP K fd ps ds sh) ∧ FnG P w K mg base lv a fd ps (spD cl con)
/-- the parameters, as they are held -/
def args0 : List D → List Ow → DEnv
  | d :: ds, o :: os => some (d, o) :: args0 ds os
  | _, _ => []
def env0 (n : Nat) (ds : List D) (io : List Ow) : DEnv := args0 ds io ++ List.replicate (n - ds.length) none
/-- what the caller gets back of the parameters -/
def outs0 (ρ : DEnv) : Nat → List D → List Ow → Option (List D)
  | i, d :: ds, o :: os => if o = .sh then (outs0 ρ (i + 1) ds os).map (d :: ·) else match ρ[i]? with
    | some (some (d', o')) => if o' = o then (outs0 ρ (i + 1) ds os).map (d' :: ·) else none
    | _ => none
  | _, [], [] => some []
  | _, _, _ => none
def enC (con : Con) (ds : List D) : En where
  nx := fun ρ => ∃ outs, outs0 ρ 0 ds con.io = some outs ∧ con.post ds .non .sh outs
  rt := fun d o ρ => ∃ outs, outs0 ρ 0 ds con.io = some outs ∧ con.post ds d o outs
  bk := fun _ => False
  ct := fun _ => False
  xc := fun e ρ => ∃ outs, outs0 ρ 0 ds con.io = some outs ∧ con.exc ds e outs
def pinO : List V → List Ow → Nat → Option V
  | v :: _, o :: _, 0 => if o = .sh then none else some v
  | _ :: vs, _ :: os, i + 1 => pinO vs os i
  | _, _, _ => none
section
variable {T : Tab} {cl : Str → Addr} {P : Program} {w : World} {K : PySem.W.Frag} {mg : Str → Option Value} {base : Heap} {lv : Nat} {b : Bs} {H H' : Hp}
theorem argS_at2 : ∀ {vs : List V} {ds : List D} {io : List Ow} {i : Nat} {c : Option Cell}, (argS vs ds io)[i]? = some c → ∃ v d o, vs[i]? = some v ∧ ds[i]? = some d ∧ io[i]? = some o ∧ c = some (v, d, o)
  | v :: vs, d :: ds, o :: io, 0, c, h => by cases h; exact ⟨v, d, o, rfl, rfl, rfl, rfl⟩
  | v :: vs, d :: ds, o :: io, i + 1, c, h => argS_at2 (vs := vs) (ds := ds) (io := io) (i := i) h
  | [], _, _, _, _, h => by cases h
  | _ :: _, [], _, _, _, h => by cases h
  | _ :: _, _ :: _, [], _, _, h => by cases h
theorem argS_len : ∀ {vs : List V} {ds : List D} {io : List Ow}, vs.length = io.length → ds.length = io.length → (argS vs ds io).length = io.length
  | [], [], [], _, _ => rfl
  | v :: vs, d :: ds, o :: io, h1, h2 => by
    show (argS vs ds io).length + 1 = io.length + 1
    rw [argS_len (by simpa using h1) (by simpa using h2)]
  | [], _ :: _, [], _, h => by simp at h
  | [], _, _ :: _, h, _ => by simp at h
  | _ :: _, _, [], h, _ => by simp at h
  | _ :: _, [], _ :: _, _, h => by simp at h
theorem argS_env : ∀ {vs : List V} {ds : List D} {io : List Ow}, vs.length = io.length → (argS vs ds io).map (Option.map ofCell) = args0 ds io
  | [], ds, [], _ => by cases ds <;> rfl
  | v :: vs, d :: ds, o :: io, h => by
    show some (d, o) :: (argS vs ds io).map (Option.map ofCell) = _
    rw [argS_env (by simpa using h)]; rfl
  | v :: vs, [], o :: io, _ => rfl
  | [], _, _ :: _, h => by simp at h
  | _ :: _, _, [], h => by simp at h
theorem pinO_at : ∀ {vs : List V} {io : List Ow} {i : Nat} {v : V}, pinO vs io i = some v → vs[i]? = some v ∧ ∃ o, io[i]? = some o ∧ o ≠ .sh
  | v :: vs, o :: io, 0, u, h => by
    have h : (if o = .sh then none else some v) = some u := h
    split at h
    · cases h
    · cases h; exact ⟨rfl, o, rfl, by assumption⟩
  | _ :: vs, _ :: io, i + 1, u, h => pinO_at (vs := vs) (io := io) (i := i) h
  | [], _, _, _, h => by cases h
  | _ :: _, [], _, _, h => by cases h
theorem pinO_of : ∀ {vs : List V} {io : List Ow} {i : Nat} {v : V} {o : Ow}, vs[i]? = some v → io[i]? = some o → o ≠ .sh → pinO vs io i = some v
  | v :: vs, o :: io, 0, u, o', h1, h2, h3 => by
    cases h1; cases h2
    exact if_neg h3
  | _ :: vs, _ :: io, i + 1, u, o', h1, h2, h3 => pinO_of (vs := vs) (io := io) (i := i) h1 h2 h3
  | [], _, _, _, _, h, _, _ => by simp at h
  | _ :: _, [], _, _, _, _, h, _ => by simp at h
theorem outs0_at {ρ : DEnv} : ∀ {n : Nat} {ds : List D} {io : List Ow} {outs : List D}, outs0 ρ n ds io = some outs → outs.length = ds.length ∧ ds.length = io.length ∧ ∀ (i : Nat) o d', io[i]? = some o → outs[i]? = some d' → (o = .sh ∧ ds[i]? = some d') ∨ (o ≠ .sh ∧ ρ[n + i]? = some (some (d', o)))
  | n, [], [], outs, h => by
    cases h
    exact ⟨rfl, rfl, fun i o d' h => by simp at h⟩
  | n, d :: ds, o :: io, outs, h => by
    unfold outs0 at h
    split at h
    · rename_i ho
      cases e : outs0 ρ (n + 1) ds io with
      | none => rw [e] at h; cases h
      | some os =>
        rw [e] at h
        cases h
        obtain ⟨i1, i2, i3⟩ := outs0_at e
        refine ⟨by simp [i1], by simp [i2], fun i o' d' h1 h2 => ?_⟩
        cases i with
        | zero => cases h1; cases h2; exact .inl ⟨ho, rfl⟩
        | succ i =>
          have := i3 i o' d' h1 h2
          rw [show n + 1 + i = n + (i + 1) by omega] at this
          exact this
    · rename_i ho
      split at h
      · rename_i d1 o1 e1
        split at h
        · rename_i ho1
          subst ho1
          cases e : outs0 ρ (n + 1) ds io with
          | none => rw [e] at h; cases h
          | some os =>
            rw [e] at h
            cases h
            obtain ⟨i1, i2, i3⟩ := outs0_at e
            refine ⟨by simp [i1], by simp [i2], fun i o' d' h1 h2 => ?_⟩
            cases i with
            | zero => cases h1; cases h2; exact .inr ⟨ho, e1⟩
            | succ i =>
              have := i3 i o' d' h1 h2
              rw [show n + 1 + i = n + (i + 1) by omega] at this
              exact this
        · cases h
      · cases h
  | _, [], _ :: _, _, h => by cases h
  | _, _ :: _, [], _, h => by cases h
theorem cells_arg0 {vs : List V} {ds : List D} {io : List Ow} {us : List Cell} {p : Sum Nat Nat} {c : Cell} (h : cells (argS vs ds io) us p = some c) : (∃ i v d o, p = .inl i ∧ vs[i]? = some v ∧ ds[i]? = some d ∧ io[i]? = some o ∧ c = (v, d, o)) ∨ ∃ j, p = .inr j ∧ us[j]? = some c := by
  cases p with
  | inr j => exact .inr ⟨j, rfl, h⟩
  | inl i =>
    have h : ((argS vs ds io)[i]?).join = some c := h
    cases e : (argS vs ds io)[i]? with
    | none => rw [e] at h; cases h
    | some q =>
      rw [e] at h
      have h : q = some c := h
      subst h
      obtain ⟨v, d, o, h1, h2, h3, h4⟩ := argS_at2 e
      cases h4
      exact .inl ⟨i, v, d, o, rfl, h1, h2, h3, rfl⟩
/-- THE WAY OUT: what the caller gets -/
theorem way_out {vs : List V} {ds outs : List D} {io : List Ow} {F F' : SetA} {fs0 fs : Sum Nat Nat → SetA} {S : List (Option Cell)} {ts : List Cell} {σ : L2.St} {ρ : DEnv} (lv1 : vs.length = io.length) (W0 : Wst cl (handB H F fs0) H (cells (argS vs ds io) []) F fs0)
    (sl : Slots σ ρ S) (W : Wst cl (handB H F fs0) H' (cells S ts) F' fs) (pin : Pin (pinO vs io) σ) (ho : outs0 ρ 0 ds io = some outs) : ∃ fs', Wst cl (handB H F fs0) H' (cells (argS vs outs io) ts) F' fs' := by
  obtain ⟨l1, l2, at_⟩ := outs0_at ho
  classical
  let ow : Nat → Bool := fun i => match io[i]? with
    | some o => decide (o ≠ .sh)
    | none => false
  have owt : ∀ {i}, ow i = true → ∃ o, io[i]? = some o ∧ o ≠ .sh := fun {i} h => by
    have h : (match io[i]? with | some o => decide (o ≠ .sh) | none => false) = true := h
    cases e : io[i]? with
    | none => rw [e] at h; cases h
    | some o => rw [e] at h; exact ⟨o, rfl, of_decide_eq_true h⟩
  have towi : ∀ {i o}, io[i]? = some o → o ≠ .sh → ow i = true := fun {i o} h1 h2 => by
    show (match io[i]? with | some o => decide (o ≠ .sh) | none => false) = true
    rw [h1]; exact decide_eq_true h2
  let g : Sum Nat Nat → SetA := fun p x => match p with
    | .inl i => ow i = true ∧ fs (.inl i) x
    | .inr j => fs (.inr j) x
  have g_fs : ∀ {p x}, g p x → fs p x := fun {p x} h => by
    cases p with
    | inl i => exact h.2
    | inr j => exact h
  have rsOld : ∀ {d v}, Rs cl F H d v → Rs cl F' H' d v := fun {d v} r => r.mono cl (fun a h => W.F0 a h) fun a u hF rx => Rx.same (fun o e => W.keep a o e fun hio => W.iof a hio hF) rx
  have slot : ∀ {i o v d'}, io[i]? = some o → o ≠ .sh → vs[i]? = some v → outs[i]? = some d' → cells S ts (.inl i) = some (v, d', o) := fun {i o v d'} h1 h2 h3 h4 => by
    rcases at_ i o d' h1 h4 with ⟨q, _⟩ | ⟨_, q⟩
    · exact absurd q h2
    · rw [Nat.zero_add] at q
      obtain ⟨v', e1, e2⟩ := sl.get q
      have e3 := pin i v (pinO_of h3 h1 h2)
      rw [e2] at e3
      cases e3
      exact cells_at e1
  refine ⟨g, fun p v d o e => ?_, fun p x h => ?_, fun p q x h1 h2 => W.dj p q x (g_fs h1) (g_fs h2), fun p x h => W.df p x (g_fs h), W.aF, W.keep, W.F0, W.Fn, fun p x h => W.fn p x (g_fs h), W.iof⟩
  · rcases cells_arg0 e with ⟨i, v', d', o', rfl, h1, h2, h3, h4⟩ | ⟨j, rfl, h1⟩
    · cases h4
      by_cases hs : o = .sh
      · subst hs
        rcases at_ i _ d h3 h2 with ⟨_, q⟩ | ⟨q, _⟩
        · have r0 := W0.rp (.inl i) v d .sh (by
            show ((argS vs ds io)[i]?).join = _
            have hi := (List.getElem?_eq_some_iff.mp h3).1
            have e0 := List.getElem?_eq_getElem (l := argS vs ds io) (i := i) (by rw [argS_len lv1 l2]; exact hi)
            obtain ⟨v2, d2, o2, a1, a2, a3, a4⟩ := argS_at2 e0
            rw [e0, a4]
            rw [h1] at a1; rw [q] at a2; rw [h3] at a3
            cases a1; cases a2; cases a3; rfl)
          refine (Rp.sh_iff cl).mpr ⟨rsOld ((Rp.sh_iff cl).mp r0).1, fun x hx => ?_⟩
          obtain ⟨o2, a1, a2⟩ := owt hx.1
          rw [h3] at a1; cases a1
          exact a2 rfl
        · exact absurd rfl q
      · have r := W.rp (.inl i) v d o (slot h3 hs h1 h2)
        have ef : g (.inl i) = fs (.inl i) := funext fun x => propext ⟨fun h => h.2, fun h => ⟨towi h3 hs, h⟩⟩
        rw [ef]; exact r
    · exact W.rp (.inr j) v d o h1
  · cases p with
    | inr j => exact W.occ (.inr j) x h
    | inl i =>
      obtain ⟨o, a1, a2⟩ := owt h.1
      have hi := (List.getElem?_eq_some_iff.mp a1).1
      have e0 := List.getElem?_eq_getElem (l := argS vs outs io) (i := i) (by rw [argS_len lv1 (l1.trans l2)]; exact hi)
      obtain ⟨v2, d2, o2, _, _, _, a4⟩ := argS_at2 e0
      refine ⟨(v2, d2, o2), ?_⟩
      show ((argS vs outs io)[i]?).join = _
      rw [e0, a4]; rfl
/-- THE RULE: a def whose body does what is asked keeps its contract -/
theorem def_ok {con : Con} {N ps : List Str} {m : S} {f : Addr} {x qual : Str} {params : Arguments} {body : List Stmt} {scope : Scope} {dvs : List V} {kws : List (Str × V)} {fd : FuncData} (B : Bd T cl P w K mg base lv) (h4 : 4 ≤ lv)
    (F : FunD K x qual params body scope dvs kws f fd) (S : FnScope N ps scope) (hm : mSs N m scope body = true) (hio : con.io.length = ps.length) (hst : ∀ i ∈ m.sto, ∀ o, con.io[i]? = some o → o = .sh)
    (hw : ∀ ds, ds.length = con.io.length → con.pre ds → wS T m (env0 N.length ds con.io) (enC con ds)) : FnG P w K mg base (lv + 1) f fd ps (spD cl con) := by
  refine fn_g F S (fun vs H Q E h => ?_) fun cdv A outer s H vs Q E hr hg h => ?_
  · obtain ⟨ds, F, fs, h1, _⟩ := h
    rw [h1, hio]
  · obtain ⟨ds, F, fs, l1, l2, W0, pre, post, exc⟩ := h
    have hpl : ps.length ≤ N.length := by have := congrArg List.length S.pre; rw [List.length_take] at this; omega
    have G : Gd T cl (fun c d _ H => E c d H) (cxOf (L2.CX P w) P w K mg base N qual scope f cdv A outer s H E) N scope lv :=
      { hN := rfl, nd := S.nd, sc := rfl, calm := rfl, room := hr.mono h4, gd := hg, con := B.con, bi := B.bi, tk := takes_of rfl rfl rfl rfl, own := passes_of rfl, lev := hr, fn := B.fn }
    have Gt : Gt (cxOf (L2.CX P w) P w K mg base N qual scope f cdv A outer s H E) N scope :=
      { hN := rfl, nd := S.nd, calm := rfl, loc := fun x h => by
          refine ⟨?_, .inl rfl⟩
          show Loc scope x
          unfold locB at h
          split at h
          · exact .inl (by assumption)
          · exact .inr (by assumption)
          · cases h }
    refine ⟨tS cl T (handB H F fs) (fun c d _ H => E c d H) (pinO vs con.io) m, (sndS m).ss G Gt _ body hm, env0 N.length ds con.io, [], enC con ds, ?_, ?_, ?_, hw ds l2 pre, ?_⟩
    · refine ⟨argS vs ds con.io ++ List.replicate (N.length - vs.length) none, F, fun p x => match p with | .inl i => fs (.inl i) x | .inr _ => False, ⟨?_, ?_, fun i c e => ?_⟩, ?_⟩
      · show (argS vs ds con.io ++ List.replicate (N.length - vs.length) none).length = (vs.map some ++ List.replicate (N.length - vs.length) none).length
        rw [List.length_append, List.length_append, argS_len l1 l2, List.length_map, l1]; simp
      · rw [List.map_append, argS_env l1, List.map_replicate]
        show env0 N.length ds con.io = args0 ds con.io ++ List.replicate (N.length - vs.length) none
        rw [l1, ← l2]; rfl
      · show (vs.map some ++ List.replicate (N.length - vs.length) none)[i]? = some (some c.1)
        by_cases hi : i < con.io.length
        · rw [List.getElem?_append_left (by rw [argS_len l1 l2]; exact hi)] at e
          obtain ⟨v, d, o, e1, e2, e3, e4⟩ := argS_at2 e
          cases e4
          rw [List.getElem?_append_left (by rw [List.length_map, l1]; exact hi), List.getElem?_map, e1]; rfl
        · rw [List.getElem?_append_right (by rw [argS_len l1 l2]; omega)] at e
          have := List.mem_of_getElem? e
          rw [List.mem_replicate] at this
          cases this.2
      · have ec : ∀ p, cells (argS vs ds con.io ++ List.replicate (N.length - vs.length) none) [] p = cells (argS vs ds con.io) [] p := fun p => by
          cases p with
          | inr j => rfl
          | inl i =>
            show ((argS vs ds con.io ++ List.replicate (N.length - vs.length) none)[i]?).join = ((argS vs ds con.io)[i]?).join
            by_cases hi : i < (argS vs ds con.io).length
            · rw [List.getElem?_append_left hi]
            · rw [List.getElem?_append_right (by omega), List.getElem?_eq_none (l := argS vs ds con.io) (by omega)]
              cases e : (List.replicate (N.length - vs.length) (none : Option Cell))[i - (argS vs ds con.io).length]? with
              | none => rfl
              | some c =>
                have := List.mem_of_getElem? e
                rw [List.mem_replicate] at this
                rw [this.2]; rfl
        have ef : ∀ p x, (match p with | .inl i => fs (.inl i) x | .inr _ => False) ↔ fs p x := fun p x => by
          cases p with
          | inl i => exact Iff.rfl
          | inr j => exact ⟨fun z => z.elim, fun z => by
              obtain ⟨c, e⟩ := W0.occ _ x z
              cases e⟩
        have ef2 : (fun (p : Sum Nat Nat) x => match p with | .inl i => fs (.inl i) x | .inr _ => False) = fs := funext fun p => funext fun x => propext (ef p x)
        rw [ef2]
        have ec2 := funext ec
        rw [ec2]
        exact W0
    · intro i v e
      obtain ⟨h1, _⟩ := pinO_at e
      show (vs.map some ++ List.replicate (N.length - vs.length) none)[i]? = some (some v)
      rw [List.getElem?_append_left (by rw [List.length_map]; exact (List.getElem?_eq_some_iff.mp h1).1), List.getElem?_map, h1]; rfl
    · intro i hi
      cases e : pinO vs con.io i with
      | none => rfl
      | some v =>
        obtain ⟨_, o, h1, h2⟩ := pinO_at e
        exact absurd (hst i hi o h1) h2
    · refine ⟨fun ρ' hn σ' H' pin R => ?_, fun d o ρ' hn v σ' H' pin R => ?_, fun _ z => z.elim, fun _ z => z.elim, fun σ' pin e ρ' hx S' F' fs' H' c d sl W ex => ?_⟩
      · obtain ⟨outs, ho, pp⟩ := hn
        have R1 := R.flat (d := .non) rfl
        obtain ⟨S', F', fs', sl, W⟩ := R1
        obtain ⟨fs2, W2⟩ := way_out l1 W0 sl W pin ho
        exact post .non .sh outs .non H' F' fs2 (outs0_at ho).1 pp W2
      · obtain ⟨outs, ho, pp⟩ := hn
        obtain ⟨S', F', fs', sl, W⟩ := R
        obtain ⟨fs2, W2⟩ := way_out l1 W0 sl W pin ho
        exact post d o outs v H' F' fs2 (outs0_at ho).1 pp W2
      · obtain ⟨outs, ho, pp⟩ := hx
        obtain ⟨fs2, W2⟩ := way_out l1 W0 sl W pin ho
        exact exc e outs c d H' F' fs2 (outs0_at ho).1 pp W2 ex
end
end DL
/-! DL28: a law's end. -/
namespace DL
open PySem PySem.Spec PyProof.Rows L2
/-- no list stands in the written part -/
def NoLst (Kf : PySem.W.Frag) : Prop := ∀ c ob, Kf.lookup c = some ob → ob.cls ≠ .type "list"
/-- the script alone -/
def scrH (c0 : Addr) (us : List Value) (ns : List Int) : Hp := fun c => if c = c0 then some (.frz { cls := .type "list", data := .seq us.toArray } (.lst (ns.map V.int))) else none
theorem scrH_at {c0 : Addr} {us : List Value} {ns : List Int} : scrH c0 us ns c0 = some (.frz { cls := .type "list", data := .seq us.toArray } (.lst (ns.map V.int))) := if_pos rfl
theorem scrH_ne {c c0 : Addr} {us : List Value} {ns : List Int} (h : c ≠ c0) : scrH c0 us ns c = none := if_neg h
theorem scrH_inv {c c0 : Addr} {us : List Value} {ns : List Int} {u : HO} (h : scrH c0 us ns c = some u) : c = c0 ∧ u = .frz { cls := .type "list", data := .seq us.toArray } (.lst (ns.map V.int)) := by
  by_cases e : c = c0
  · subst e
    rw [scrH_at] at h
    cases h
    exact ⟨rfl, rfl⟩
  · rw [scrH_ne e] at h; cases h
theorem law_callD {P : Program} {w : World} {Kf : PySem.W.Frag} {mg mb : Str → Option Value} {k : Nat} {fa c0 : Addr} {fd : FuncData} {x : Str} {sp : Sp} {st : Shared} {us : List Value} {ns : List Int}
    (kin : Kf.In st.heap) (nol : NoLst Kf) (gl : st.heap.Ns mainGlobals mg) (bl : st.heap.Ns builtinsNs mb) (blv : ∀ y : Str, y ≠ "__name__" → mb y = bootBuiltins y) (lim : st.heap.NoLimit) (gens : st.gens = #[])
    (here : st.heap.get? c0 = some { cls := .type "list", data := .seq us.toArray }) (hns : IntsAre us ns) (size : ns.length ≤ sizeLine) (room : Room k callerA)
    (fn : ∀ base : Heap, Kf.In base → base.Ns mainGlobals mg → FnG P w Kf mg base k fa fd [x] sp) (binds : ∀ (s : Shared) (u : Value), BindsTo s fd ⟨[u], []⟩ [(x, u)])
    (asks : sp [.ref c0] (scrH c0 us ns) (fun v _ => v = .bl true) fun _ _ _ => False) :
    codeAny (model P w) callerA (.call (.ref fa) ⟨[.ref c0], []⟩) (fun r s2 => r = .ok (.ret (.bool true)) ∧ OldK st.heap s2.heap ∧ s2.os = st.os ∧ AllBare s2.gens) st := by
  have vals := vals_ints hns
  have notK : ∀ {c o}, Kf.lookup c = some o → scrH c0 us ns c = none := fun {c o} e => by
    by_cases q : c = c0
    · subst q
      have z := kin c o e
      rw [here] at z
      cases z
      exact absurd rfl (nol c _ e)
    · exact scrH_ne q
  have keepB : ∀ {c : Addr} {o : Obj}, st.heap.get? c = some o → scrH c0 us ns c = none → (hidT st.heap (scrH c0 us ns)).get? c = some o := fun e n => hidT_get e n
  have notD : ∀ {c : Addr} {o : Obj} {es : Array DictEntry} {ep : Nat}, st.heap.get? c = some o → o.data = .dict es ep → scrH c0 us ns c = none := fun {c o es ep} e dd => by
    by_cases q : c = c0
    · subst q
      rw [here] at e
      cases e
      cases dd
    · exact scrH_ne q
  have nsB : ∀ {c : Addr} {m : Str → Option Value}, st.heap.Ns c m → (hidT st.heap (scrH c0 us ns)).Ns c m := fun {c m} ⟨o, es, ep, e, dd, rest⟩ => ⟨o, es, ep, keepB e (notD e dd), dd, rest⟩
  have kinB : Kf.In (hidT st.heap (scrH c0 us ns)) := fun c o e => keepB (kin c o e) (notK e)
  have hok : HOk P w (scrH c0 us ns) st.heap := fun c u e => by
    obtain ⟨rfl, rfl⟩ := scrH_inv e
    exact ⟨here, by rw [List.length_map]; exact size, us, _, vals, here⟩
  have modB : Mod Kf mg (hidT st.heap (scrH c0 us ns)) := ⟨kinB, nsB gl, ⟨mb, nsB bl, blv⟩, (fun ⟨mc, q1, q2⟩ => ⟨mc, nsB q1, q2⟩) lim⟩
  have env0 : Env0 P w Kf mg (hidT st.heap (scrH c0 us ns)) callerA [] st (scrH c0 us ns) := ⟨rfl, modB, fun _ _ e => of_hidT e, Nat.le_of_eq (hidT_size _ _), trivial, fun c hc => absurd (show c ∈ ([] : List Addr) from hc) (by simp), hok, .of_eq gens⟩
  refine codeAny_mono ((fn _ kinB (nsB gl)).run callerA [] st (scrH c0 us ns) ⟨[.ref c0], []⟩ [.ref c0] [.ref c0] _ _ room rfl env0 (binds st (.ref c0)) (.cons rfl .nil) asks) fun r s2 got => ?_
  cases r with
  | error e =>
    obtain ⟨_, _, _, _, _, _, _, _, _, _, _, _, no⟩ := got
    exact no.elim
  | ok fl =>
    cases fl with
    | ret u =>
      obtain ⟨v, H2, sameOs, bare, un, hok2, rel, val⟩ := got
      have val : v = .bl true := val
      subst val
      obtain rfl : u = Value.bool true := rel
      refine ⟨rfl, OldK.of_keep fun c o e => ?_, sameOs, bare⟩
      by_cases q : c = c0
      · subst q
        obtain ⟨z1, _⟩ := hok2 c _ (un.frzs c _ _ scrH_at)
        rw [here] at e
        cases e
        exact z1
      · exact un.keep c o e (scrH_ne q) (by intro z; exact absurd (show c ∈ ([] : List Addr) from z) (by simp)) (by simp)
    | next => exact False.elim got
    | brk => exact False.elim got
    | cont => exact False.elim got
/-- what the law's own def is asked for -/
structure LawCon (n : Nat) (con : Con) : Prop where
  io : con.io = [.sh]
  pre : ∀ ns : List Int, ns.length ≤ n → (∀ z ∈ ns, Builtin.Int.intBits z ≤ 1048576) → con.pre [.lst (ns.map D.int)]
  post : ∀ ds d o outs, con.post ds d o outs → d = .bl true
  exc : ∀ ds e outs, ¬ con.exc ds e outs
theorem law_asks {cl : Str → Addr} {n : Nat} {con : Con} {c0 : Addr} {us : List Value} {ns : List Int} (L : LawCon n con) (h1 : ns.length ≤ n) (h2 : ∀ z ∈ ns, Builtin.Int.intBits z ≤ 1048576) : spD cl con [.ref c0] (scrH c0 us ns) (fun v _ => v = .bl true) fun _ _ _ => False := by
  refine ⟨[.lst (ns.map D.int)], fun c => c = c0, fun _ _ => False, by rw [L.io]; rfl, by rw [L.io]; rfl, ?_, L.pre ns h1 h2, fun r ro outs v H2 F2 fs2 _ hp W => ?_, fun e outs _ _ _ _ _ _ hp _ _ => (L.exc _ e outs hp).elim⟩
  · rw [L.io]
    refine ⟨fun p v d o e => ?_, fun _ _ z => z.elim, fun _ _ _ z => z.elim, fun _ _ z => z.elim, fun c (hc : c = c0) => hc ▸ ⟨_, scrH_at⟩, fun _ _ e _ => e, fun _ h => h, fun _ h => .inl h, fun _ _ z => z.elim, fun c ⟨_, z⟩ => z.elim⟩
    rcases cells_arg0 e with ⟨i, v', d', o', rfl, e1, e2, e3, e4⟩ | ⟨j, rfl, e1⟩
    · cases i with
      | succ i => simp at e1
      | zero =>
        cases e1; cases e2; cases e3; cases e4
        refine (Rp.sh_iff cl).mpr ⟨.lst rfl (Or.inr ⟨_, scrH_at⟩) (by simp) fun i d v h3 h4 => ?_, fun _ z => z⟩
        rw [List.getElem?_map] at h3 h4
        cases q : ns[i]? with
        | none => rw [q] at h3; cases h3
        | some z =>
          rw [q] at h3 h4
          cases h3; cases h4
          exact .int z
    · cases e1
  · obtain rfl := L.post _ _ _ _ hp
    have r := W.read (i := .inr 0) (v := v) (d := .bl true) (o := ro) rfl
    cases r
    rfl
/-- the goal of a head, from the law's contract -/
theorem walk_D {l : PySem.W.OpenLaw} {n k : Nat} {q : Program} {loose : List Str} {XP : (Str → Option Value) → Heap → Prop} {YP : World → Heap → Prop} {d : DefRec} {x : Str} (hn : l.most = some n) (hn2 : n ≤ sizeLine) (hdf : d.params.defaults = []) (hr : Room k callerA)
    (F : ∀ (w : World) (mg : Str → Option Value) (fa : Addr) (h : Heap), YP w h → h.Ns mainGlobals mg → mg d.name = some (.ref fa) → ∃ (Kf : PySem.W.Frag) (fd : FuncData) (cl : Str → Addr) (con : Con), Kf.In h ∧ NoLst Kf ∧ (∀ (s : Shared) (u : Value), BindsTo s fd ⟨[u], []⟩ [(x, u)]) ∧ LawCon n con ∧
      ∀ base : Heap, Kf.In base → base.Ns mainGlobals mg → FnG l.prog w Kf mg base k fa fd [x] (spD cl con)) : PySem.W.WalkO q loose XP YP l.row.toRowW d [] (fun f vs => PySem.call f vs) := by
  refine Att.attach_callB hn hdf fun w s0 st mg mb fa ob pm cd doc c0 us ns G Y _ _ _ hmg here hns hlen bits gens => ?_
  obtain ⟨Kf, fd, cl, con, kin, nol, hb, L, hF⟩ := F w mg fa _ Y G.T.g hmg
  exact law_callD kin nol G.T.g G.T.b G.T.builtins G.T.nolimit gens here hns (Nat.le_trans hlen hn2) hr hF hb (law_asks L hlen bits)
/-! ### the head's facts, no list among them -/
def noL : Obj → Bool
  | ⟨.type c, _, _, _⟩ => !decide (c = "list")
  | _ => true
def frL (g : Addr → Option Obj) (as : List Addr) : PySem.W.Frag := (He.frG g as).filter fun p => noL p.2
theorem mem_frG {g : Addr → Option Obj} {as : List Addr} {c : Addr} {o : Obj} (h : (c, o) ∈ He.frG g as) : g c = some o := by
  obtain ⟨b, _, e⟩ := List.mem_filterMap.mp h
  cases q : g b with
  | none => rw [q] at e; cases e
  | some u =>
    rw [q] at e
    cases e
    exact q
theorem look_mem {c : Addr} {o : Obj} : ∀ {l : List (Addr × Obj)}, l.lookup c = some o → (c, o) ∈ l
  | [], h => by cases h
  | (b, u) :: r, h => by
    rw [List.lookup_cons] at h
    split at h
    · rename_i q
      cases h
      rw [beq_iff_eq.mp q]
      exact List.mem_cons_self
    · exact List.mem_cons_of_mem _ (look_mem h)
theorem frL_mem {g : Addr → Option Obj} {as : List Addr} {c : Addr} {o : Obj} (h : (frL g as).lookup c = some o) : g c = some o ∧ noL o = true :=
  let ⟨h1, h2⟩ := List.mem_filter.mp (look_mem h)
  ⟨mem_frG h1, h2⟩
theorem frL_no {g : Addr → Option Obj} {as : List Addr} : NoLst (frL g as) := fun c o h e => by
  have q := (frL_mem h).2
  obtain ⟨oc, od, dt, sl⟩ := o
  cases e
  cases q
def obsL (n : Nat) (fa : List He.Fa) (fn : List He.DefD) (g : Addr → Option Obj) : He.AlD := He.obsD fa fn (frL g (He.asD g n))
def hookL (n : Nat) (fa : List He.Fa) (fn : List He.DefD) : PySem.W.Hook where
  α := He.AlD
  obs := fun s => obsL n fa fn s.heap.get?
  val := fun _ => He.valD fn
  says := fun _ h => ∃ Kf : PySem.W.Frag, Kf.In h ∧ NoLst Kf ∧ He.SaysD fa fn Kf
  of := fun _ _ e => ⟨_, fun _ _ h => (frL_mem h).1, frL_no, e⟩
  keeps := fun _ _ _ ⟨Kf, h1, h2, h3⟩ k => ⟨Kf, h1.keeps k, h2, h3⟩
theorem obsL_eq {n : Nat} {fa : List He.Fa} {fn : List He.DefD} {g : Addr → Option Obj} {s : Shared} (h : ∀ c, g c = s.heap.get? c) : obsL n fa fn g = (hookL n fa fn).obs s := by
  have e : g = s.heap.get? := funext h
  rw [e] <;> rfl
end DL
/-! DL29: a law's defs, one by one. -/
namespace DL
open PySem PySem.Spec PyProof.Rows L2
/-- the table of the first i defs -/
def Tn (L : List (Str × Con)) (C : List (Str × D)) (i : Nat) : Tab := ⟨fun f => (L.take i).lookup f, fun x => C.lookup x⟩
section
variable {L : List (Str × Con)} {C : List (Str × D)} {i : Nat} {cl : Str → Addr} {P : Program} {w : World} {K : PySem.W.Frag} {mg : Str → Option Value} {base : Heap} {lv : Nat}
theorem lookup_app {α : Type} {k : Str} {v : α} : ∀ {l m : List (Str × α)}, (l ++ m).lookup k = some v → l.lookup k = some v ∨ m.lookup k = some v
  | [], m, h => .inr h
  | (a, b) :: l, m, h => by
    rw [List.cons_append, List.lookup_cons] at h
    rw [List.lookup_cons]
    split at h
    · exact .inl h
    · exact lookup_app h
theorem look_memS {α : Type} {k : Str} {v : α} : ∀ {l : List (Str × α)}, l.lookup k = some v → (k, v) ∈ l
  | [], h => by cases h
  | (b, u) :: r, h => by
    rw [List.lookup_cons] at h
    split at h
    · rename_i q
      cases h
      rw [beq_iff_eq.mp q]
      exact List.mem_cons_self
    · exact List.mem_cons_of_mem _ (look_memS h)
theorem Bd.start (con : ∀ p ∈ C, ∃ u, mg p.1 = some u ∧ RelV p.2.toV u) (bi : ∀ x ∈ biNames, mg x = none) : Bd (Tn L C 0) cl P w K mg base lv where
  con := fun x d h => con (x, d) (look_memS h)
  bi := bi
  fn := fun f c h => by cases h
theorem Bd.step {f : Str} {con : Con} {a : Addr} {fd : FuncData} {ps : List Str} {ds : List Value} (B : Bd (Tn L C i) cl P w K mg base lv) (hi : L[i]? = some (f, con)) (hm : mg f = some (.ref a)) (kp : PySem.W.keepIn K (.ref a) = true) (vd : Vals (con.dfl.map D.toV) ds) (fl : con.dfl.all D.flat = true)
    (bd : ∀ sh ∈ con.shp, BindsP K fd ps ds sh) (F : FnG P w K mg base (lv + 1) a fd ps (spD cl con)) : Bd (Tn L C (i + 1)) cl P w K mg base (lv + 1) where
  con := B.con
  bi := B.bi
  fn := fun g c h => by
    have h : (L.take (i + 1)).lookup g = some c := h
    rw [List.take_add_one, hi] at h
    rcases lookup_app h with h | h
    · obtain ⟨a, fd, ps, ds, h1, h2, h3, h4, h5, h6⟩ := B.fn g c h
      exact ⟨a, fd, ps, ds, h1, h2, h3, h4, h5, h6.mono (Nat.le_succ _)⟩
    · have h := look_memS h
      simp only [Option.toList_some, List.mem_singleton, Prod.mk.injEq] at h
      obtain ⟨rfl, rfl⟩ := h
      exact ⟨a, fd, ps, ds, hm, kp, vd, fl, bd, F⟩
theorem binds_of {x qual : Str} {params : Arguments} {body : List Stmt} {scope : Scope} {kws : List (Str × V)} {f : Addr} {fd : FuncData} {ps : List Str} {sh : Shp} (F : FunD K x qual params body scope [] kws f fd)
    (h : ∀ (kV doc pm : Value) (an : Option Addr) (cdv ct : Value) (us ws zs : List Value), us.length = sh.n → ws.length = sh.ks.length → pickA sh.plan (us ++ ws ++ []) = some zs → bindArgs (PySem.W.fnOf x qual params body scope .none kV doc pm an cdv ct) ⟨us, sh.ks.zip ws⟩ = pure (ps.zip zs)) : BindsP K fd ps [] sh := by
  obtain ⟨oc, od, dV, kV, doc, pm, an, cdv, ct, osl, rfl, lk, hcd, hD, hK⟩ := F.ex
  rcases hD with ⟨_, rfl⟩ | ⟨e, _⟩
  · exact fun s us ws zs _ h1 h2 h3 => .of_eq (h kV doc pm an cdv ct us ws zs h1 h2 h3)
  · exact absurd rfl e
theorem fact_mem {fa : List He.Fa} {fn : List He.DefD} (c : He.SaysD fa fn K) {f : He.Fa} (h : f ∈ fa) : f.ok K = true := by
  obtain ⟨i, hi⟩ := List.getElem?_of_mem h
  exact c.fact i hi
theorem say_int {h : Heap} {fa : List He.Fa} {fn : List He.DefD} (X : K.In h) (G : h.Ns mainGlobals mg) (c : He.SaysD fa fn K) {x : Str} {i : Int} (hf : He.Fa.int x i ∈ fa) : ∃ u, mg x = some u ∧ RelV (D.int i).toV u :=
  let ⟨t, e⟩ := He.int_ok X G (fact_mem c hf)
  ⟨_, e, t, rfl⟩
theorem say_str {h : Heap} {fa : List He.Fa} {fn : List He.DefD} (X : K.In h) (G : h.Ns mainGlobals mg) (c : He.SaysD fa fn K) {x z : Str} (hf : He.Fa.str x z ∈ fa) : ∃ u, mg x = some u ∧ RelV (D.str z).toV u :=
  let ⟨t, e⟩ := He.str_ok X G (fact_mem c hf)
  ⟨_, e, t, rfl⟩
theorem say_glo {h : Heap} {fa : List He.Fa} {fn : List He.DefD} (X : K.In h) (G : h.Ns mainGlobals mg) (c : He.SaysD fa fn K) {x : Str} (hf : He.Fa.glo x ∈ fa) : mg x = some (.ref (He.ga K x)) := He.glo_ok X G (fact_mem c hf)
theorem say_free {h : Heap} {fa : List He.Fa} {fn : List He.DefD} (X : K.In h) (G : h.Ns mainGlobals mg) (c : He.SaysD fa fn K) (hf : ∀ x ∈ biNames, He.Fa.free x ∈ fa) : ∀ x ∈ biNames, mg x = none := fun x hx => He.free_ok X G (fact_mem c (hf x hx))
/-- one more def of the module -/
theorem Bd.def_ {f qual : Str} {params : Arguments} {body : List Stmt} {scope : Scope} {con : Con} {N ps : List Str} {m : S} (B : Bd (Tn L C i) cl P w K mg base lv) (h4 : 4 ≤ lv) (hm : mg f = some (.ref (He.fAd K (f, none)))) (hF : ∃ fd, FunD K f qual params body scope [] [] (He.fAd K (f, none)) fd)
    (S : FnScope N ps scope) (mt : mSs N m scope body = true) (hi : L[i]? = some (f, con)) (hd : con.dfl = []) (hio : con.io.length = ps.length) (hst : ∀ j ∈ m.sto, ∀ o, con.io[j]? = some o → o = .sh)
    (hw : ∀ ds, ds.length = con.io.length → con.pre ds → wS (Tn L C i) m (env0 N.length ds con.io) (enC con ds))
    (bd : ∀ sh ∈ con.shp, ∀ (kV doc pm : Value) (an : Option Addr) (cdv ct : Value) (us ws zs : List Value), us.length = sh.n → ws.length = sh.ks.length → pickA sh.plan (us ++ ws ++ []) = some zs → bindArgs (PySem.W.fnOf f qual params body scope .none kV doc pm an cdv ct) ⟨us, sh.ks.zip ws⟩ = pure (ps.zip zs)) :
    Bd (Tn L C (i + 1)) cl P w K mg base (lv + 1) := by
  obtain ⟨fd, F⟩ := hF
  refine B.step (ds := []) hi hm F.kp ?_ ?_ (fun sh hs => binds_of F (bd sh hs)) (def_ok B h4 F S mt hio hst hw)
  · rw [hd]; exact .nil
  · rw [hd]; rfl
end
end DL
/-! LB0: rewriting the conditions of the small language. -/
namespace DL
open PySem PySem.Spec PyProof.Rows L2
theorem flat_non : D.flat .non = true := rfl
theorem flat_bl (b : Bool) : D.flat (.bl b) = true := rfl
theorem flat_int (i : Int) : D.flat (.int i) = true := rfl
theorem flat_str (s : Str) : D.flat (.str s) = true := rfl
theorem flat_lst (ds : List D) : D.flat (.lst ds) = false := rfl
theorem flat_tup (ds : List D) : D.flat (.tup ds) = false := rfl
theorem flat_dic (ds : List (Key × D)) : D.flat (.dic ds) = false := rfl
theorem toKey_int (i : Int) : D.toKey (.int i) = some (.inl i) := rfl
theorem toKey_str (s : Str) : D.toKey (.str s) = some (.inr s) := rfl
theorem truth_bl (b : Bool) (k : Bool → Prop) : truthW (.bl b) k = k b := rfl
theorem cmp_eq (x y : D) (k : Bool → Prop) : cmpW .eq x y k = eqW x y k := rfl
theorem cmp_ne (x y : D) (k : Bool → Prop) : cmpW .ne x y k = eqW x y fun b => k !b := rfl
theorem cmp_in (x y : D) (k : Bool → Prop) : cmpW .in_ x y k = inW x y k := rfl
theorem cmp_nin (x y : D) (k : Bool → Prop) : cmpW .nin x y k = inW x y fun b => k !b := rfl
theorem cmp_lt (i j : Int) (k : Bool → Prop) : cmpW .lt (.int i) (.int j) k = k (decide (i < j)) := rfl
theorem cmp_le (i j : Int) (k : Bool → Prop) : cmpW .le (.int i) (.int j) k = k (decide (i ≤ j)) := rfl
theorem cmp_gt (i j : Int) (k : Bool → Prop) : cmpW .gt (.int i) (.int j) k = k (decide (j < i)) := rfl
theorem cmp_ge (i j : Int) (k : Bool → Prop) : cmpW .ge (.int i) (.int j) k = k (decide (j ≤ i)) := rfl
theorem cmp_is (x : D) (k : Bool → Prop) : cmpW .is x .non k = k x.isNon := rfl
theorem cmp_isnot (x : D) (k : Bool → Prop) : cmpW .isnot x .non k = k !x.isNon := rfl
theorem op_addI (i j : Int) (k : D → Prop) : sOp .add (.int i) (.int j) k = k (.int (i + j)) := rfl
theorem op_addS (a b : Str) (k : D → Prop) : sOp .add (.str a) (.str b) k = (a.length + b.length ≤ sizeLine ∧ k (.str (a ++ b))) := rfl
theorem op_subI (i j : Int) (k : D → Prop) : sOp .sub (.int i) (.int j) k = k (.int (i - j)) := rfl
theorem op_mulI (i j : Int) (k : D → Prop) : sOp .mul (.int i) (.int j) k = ((CMul i j ∨ CMulW i j) ∧ k (.int (i * j))) := rfl
theorem op_divI (i j : Int) (k : D → Prop) : sOp .div (.int i) (.int j) k = (CDivW i j ∧ k (.int (i / j))) := rfl
theorem op_modI (i j : Int) (k : D → Prop) : sOp .mod (.int i) (.int j) k = (0 < j ∧ k (.int (i % j))) := rfl
theorem op_powI (i j : Int) (k : D → Prop) : sOp .pow (.int i) (.int j) k = (CPow i j ∧ k (.int (i ^ j.toNat))) := rfl
theorem aug_addI (i j : Int) (k : D → Prop) : augW .add (.int i) (.int j) k = k (.int (i + j)) := rfl
theorem aug_subI (i j : Int) (k : D → Prop) : augW .sub (.int i) (.int j) k = k (.int (i - j)) := rfl
theorem bi_lenL (ds : List D) (k : D → Prop) : biW .len [.lst ds] k = k (.int ds.length) := rfl
theorem bi_lenT (ds : List D) (k : D → Prop) : biW .len [.tup ds] k = k (.int ds.length) := rfl
theorem bi_lenD (ds : List (Key × D)) (k : D → Prop) : biW .len [.dic ds] k = k (.int ds.length) := rfl
theorem bi_lenS (s : Str) (k : D → Prop) : biW .len [.str s] k = (s.length ≤ sizeLine ∧ k (.int s.length)) := rfl
theorem bi_intI (i : Int) (k : D → Prop) : biW .int [.int i] k = k (.int i) := rfl
theorem bi_min (i j : Int) (k : D → Prop) : biW .min [.int i, .int j] k = k (.int (if j < i then j else i)) := rfl
theorem bi_max (i j : Int) (k : D → Prop) : biW .max [.int i, .int j] k = k (.int (if j > i then j else i)) := rfl
theorem bi_all (ds : List D) (k : D → Prop) : biW .all [.lst ds] k = allW ds k := rfl
theorem it_lst (ds : List D) (k : List D → Prop) : itemsW .lst [.lst ds] k = k ds := rfl
theorem it_tup (ds : List D) (k : List D → Prop) : itemsW .tup [.tup ds] k = k ds := rfl
theorem it_str (s : Str) (k : List D → Prop) : itemsW .str [.str s] k = k (s.cps.toList.map fun c => .str ⟨#[c]⟩) := rfl
theorem it_rng (n : Int) (k : List D → Prop) : itemsW .rng [.int n] k = (-(2 ^ 62) ≤ n ∧ n < 2 ^ 62 ∧ k ((List.range n.toNat).map fun i => .int (0 + (i : Nat)))) := rfl
theorem it_rng2 (a b : Int) (k : List D → Prop) : itemsW .rng2 [.int a, .int b] k = ((-(2 ^ 62) ≤ a ∧ a < 2 ^ 62) ∧ (-(2 ^ 62) ≤ b ∧ b < 2 ^ 62) ∧ k ((List.range (b - a).toNat).map fun i => .int (a + (i : Nat)))) := rfl
theorem tgW_nm (i : Nat) (d : D) (ρ : DEnv) : tgW (.nm i) d ρ = some (ρ.set i (some (d, .sh))) := rfl
theorem ixL_l (ds : List D) (j : Int) (k : D → Prop) : ixLW (.lst ds) (.int j) k = ∃ x, atI ds j = some x ∧ k x := rfl
theorem ixL_t (ds : List D) (j : Int) (k : D → Prop) : ixLW (.tup ds) (.int j) k = ∃ x, atI ds j = some x ∧ k x := rfl
theorem ixL_s (s : Str) (j : Int) (k : D → Prop) : ixLW (.str s) (.int j) k = (s.length ≤ sizeLine ∧ ∃ c, atI s.cps.toList j = some c ∧ k (.str ⟨#[c]⟩)) := rfl
theorem tup2 {k : D → Prop} {b : Bool} (h : k (.bl b)) : k (.bl b) := h
theorem opt_nil (k : Option Int → Prop) : optI [] k = k none := rfl
theorem opt_int (i : Int) (k : Option Int → Prop) : optI [.int i] k = k (some i) := rfl
theorem ch_own (c : Ow) (k : Key) : (Ow.own c).child k = c := rfl
theorem ch_sh (k : Key) : Ow.sh.child k = .sh := rfl
theorem own_ne (c : Ow) : (Ow.own c = Ow.sh) = False := by simp
theorem ownK_ne (k : Key) (c r : Ow) : (Ow.ownK k c r = Ow.sh) = False := by simp
/-! ### steps -/
theorem cut {T : Tab} {a b : S} {ρ : DEnv} {E : En} (h : ∀ K : DEnv → Prop, (∀ ρ1, wS T b ρ1 E → K ρ1) → wS T a ρ { E with nx := K }) : wS T (.seq a b) ρ E := h _ fun _ h => h
theorem pick0 {α : Type} (l : List α) : pickA (shp 0).plan l = some [] := rfl
theorem pick1 {α : Type} (x : α) (l : List α) : pickA (shp 1).plan (x :: l) = some [x] := rfl
theorem pick2 {α : Type} (x y : α) (l : List α) : pickA (shp 2).plan (x :: y :: l) = some [x, y] := rfl
theorem pick3 {α : Type} (x y z : α) (l : List α) : pickA (shp 3).plan (x :: y :: z :: l) = some [x, y, z] := rfl
theorem pick4 {α : Type} (x y z w : α) (l : List α) : pickA (shp 4).plan (x :: y :: z :: w :: l) = some [x, y, z, w] := rfl
theorem pick5 {α : Type} (x y z w v : α) (l : List α) : pickA (shp 5).plan (x :: y :: z :: w :: v :: l) = some [x, y, z, w, v] := rfl
theorem pick6 {α : Type} (x y z w v u : α) (l : List α) : pickA (shp 6).plan (x :: y :: z :: w :: v :: u :: l) = some [x, y, z, w, v, u] := rfl
theorem shp_n (n : Nat) : (shp n).n = n := rfl
theorem shp_ks (n : Nat) : (shp n).ks = [] := rfl
/-- a loop by its invariant -/
theorem forW_inv {f : DEnv → (DEnv → Prop) → Prop} {t : Tg} {K : DEnv → Prop} (I : Nat → DEnv → Prop) {items : List D} : ∀ {i : Nat} {ρ : DEnv}, I i ρ → (∀ j d ρ, i ≤ j → items[j - i]? = some d → I j ρ → ∃ ρ1, tgW t d ρ = some ρ1 ∧ ∀ k : DEnv → Prop, (∀ ρ2, I (j + 1) ρ2 → k ρ2) → f ρ1 k) → (∀ ρ, I (i + items.length) ρ → K ρ) → forW f t K items ρ := by
  induction items with
  | nil => intro i ρ h _ e; exact e ρ h
  | cons d ds ih =>
    intro i ρ h st e
    obtain ⟨ρ1, e1, g⟩ := st i d ρ (Nat.le_refl _) (by rw [Nat.sub_self]; rfl) h
    show (match tgW t d ρ with | some ρ1 => f ρ1 (forW f t K ds) | none => False)
    rw [e1]
    refine g _ fun ρ2 h2 => ih h2 (fun j d' ρ' hj e' => st j d' ρ' (by omega) (by rw [show j - i = (j - (i + 1)) + 1 by omega]; exact e')) fun ρ' h' => e ρ' (by rw [List.length_cons]; rw [show i + (ds.length + 1) = i + 1 + ds.length by omega]; exact h')
theorem for_inv {f : DEnv → (DEnv → Prop) → Prop} {t : Tg} {K : DEnv → Prop} {items : List D} {ρ : DEnv} (I : Nat → DEnv → Prop) (h : I 0 ρ) (st : ∀ (j : Nat) d ρ, items[j]? = some d → I j ρ → ∃ ρ1, tgW t d ρ = some ρ1 ∧ ∀ k : DEnv → Prop, (∀ ρ2, I (j + 1) ρ2 → k ρ2) → f ρ1 k) (e : ∀ ρ, I items.length ρ → K ρ) : forW f t K items ρ :=
  forW_inv I (i := 0) h (fun j d ρ _ q => st j d ρ q) (by rw [Nat.zero_add]; exact e)
/-- a comprehension by its invariant -/
theorem compW_inv {f : DEnv → (List Arg → DEnv → Prop) → Prop} {t : Tg} {c : Ow} {K : List D → DEnv → Prop} (I : Nat → List D → DEnv → Prop) {items : List D} : ∀ {i : Nat} {acc : List D} {ρ : DEnv}, I i acc ρ →
    (∀ j d acc ρ, i ≤ j → items[j - i]? = some d → I j acc ρ → ∃ ρ1, tgW t d ρ = some ρ1 ∧ ∀ k : List Arg → DEnv → Prop, (∀ x ox ρ2, acc.length < sizeLine ∧ (x.flat = true ∨ c = .sh ∨ c = ox) ∧ I (j + 1) (acc ++ [x]) (clr ρ2 t.slots) → k [.dat x ox] ρ2) → (∀ ρ2, I (j + 1) acc (clr ρ2 t.slots) → k [] ρ2) → f ρ1 k) →
    (∀ acc ρ, I (i + items.length) acc ρ → K acc ρ) → compW f t c items acc ρ K := by
  induction items with
  | nil => intro i acc ρ h _ e; exact e acc ρ h
  | cons d ds ih =>
    intro i acc ρ h st e
    obtain ⟨ρ1, e1, g⟩ := st i d acc ρ (Nat.le_refl _) (by rw [Nat.sub_self]; rfl) h
    have next : ∀ acc' ρ', I (i + 1) acc' ρ' → compW f t c ds acc' ρ' K := fun acc' ρ' h' => ih h' (fun j d' a ρ'' hj e' => st j d' a ρ'' (by omega) (by rw [show j - i = (j - (i + 1)) + 1 by omega]; exact e')) fun a ρ'' q => e a ρ'' (by rw [List.length_cons]; rw [show i + (ds.length + 1) = i + 1 + ds.length by omega]; exact q)
    show (match tgW t d ρ with | some ρ1 => f ρ1 _ | none => False)
    rw [e1]
    refine g _ (fun x ox ρ2 ⟨h1, h2, h3⟩ => ⟨h1, h2, next _ _ h3⟩) fun ρ2 h2 => next _ _ h2
theorem comp_inv0 {f : DEnv → (List Arg → DEnv → Prop) → Prop} {t : Tg} {c : Ow} {K : List D → DEnv → Prop} {items : List D} {ρ : DEnv} (I : Nat → List D → DEnv → Prop) (h : I 0 [] ρ)
    (st : ∀ (j : Nat) d acc ρ, items[j]? = some d → I j acc ρ → ∃ ρ1, tgW t d ρ = some ρ1 ∧ ∀ k : List Arg → DEnv → Prop, (∀ x ox ρ2, acc.length < sizeLine ∧ (x.flat = true ∨ c = .sh ∨ c = ox) ∧ I (j + 1) (acc ++ [x]) (clr ρ2 t.slots) → k [.dat x ox] ρ2) → (∀ ρ2, I (j + 1) acc (clr ρ2 t.slots) → k [] ρ2) → f ρ1 k)
    (e : ∀ acc ρ, I items.length acc ρ → K acc ρ) : compW f t c items [] ρ K :=
  compW_inv I (i := 0) h (fun j d acc ρ _ q => st j d acc ρ q) (by rw [Nat.zero_add]; exact e)
/-! ### equality -/
theorem eqInt {i j : Int} {k : Bool → Prop} (h : k (i == j)) : eqW (.int i) (.int j) k := ⟨rfl, rfl, h⟩
theorem canLay_ints : ∀ ns : List Int, ∃ ps, D.toPyL (ns.map D.int) = some ps ∧ PyData.canLayAll0 ps = true ∧ PyData.depthAll ps = 0 ∧ PyData.eqvAll ps [] = ns.isEmpty
  | [] => ⟨[], rfl, rfl, rfl, rfl⟩
  | n :: ns => by
    obtain ⟨ps, h1, h2, h3, h4⟩ := canLay_ints ns
    refine ⟨.int n :: ps, ?_, ?_, ?_, rfl⟩
    · show (match (D.int n).toPy, D.toPyL (ns.map D.int) with | some p, some ps => some (p :: ps) | _, _ => none) = _
      rw [h1]; rfl
    · show (true && PyData.canLayAll0 ps) = true
      rw [h2]; rfl
    · show max 0 (PyData.depthAll ps) = 0
      rw [h3]; rfl
theorem eqNil {ns : List Int} {k : Bool → Prop} (h : k ns.isEmpty) : eqW (.lst (ns.map .int)) (.lst []) k := by
  obtain ⟨ps, h1, h2, h3, h4⟩ := canLay_ints ns
  have e : (D.lst (ns.map D.int)).toPy = some (.list ps) := by rw [D.toPy, h1]; rfl
  unfold eqW
  rw [e]
  refine ⟨?_, rfl, ?_⟩
  · show (PyData.canLayAll0 ps && decide (PyData.depthAll ps + 1 ≤ 64)) = true
    rw [h2, h3]; rfl
  · show k (PyData.eqvAll ps [])
    rw [h4]; exact h
/-! ### calls -/
theorem use_call {con : Con} {sh : Shp} {p1 p2 qs : List Arg} {ρ : DEnv} {k : List Arg → DEnv → Prop} {xc : XC} {ds : List D} (l1 : p1.length = sh.n) (l2 : p2.length = sh.ks.length) (hp : pickA sh.plan (p1 ++ p2 ++ con.dfl.map fun d => .dat d .sh) = some qs) (ha : argD ρ qs con.io = some ds) (nd : (slotsOf qs).Nodup) (pre : con.pre ds)
    (post : ∀ r ro outs, outs.length = ds.length → con.post ds r ro outs → k [.dat r ro] (putIo ρ qs con.io outs)) (exc : ∀ e outs, outs.length = ds.length → con.exc ds e outs → xc e (putIo ρ qs con.io outs)) : callC con sh p1 p2 ρ k xc := by
  unfold callC
  rw [hp]
  show _ ∧ _ ∧ (match argD ρ qs con.io with | some ds => _ | none => False)
  rw [ha]
  exact ⟨l1, l2, nd, pre, post, exc⟩
theorem putIo_dat : ∀ {qs : List Arg} {ρ : DEnv} {io : List Ow} {outs : List D}, slotsOf qs = [] → putIo ρ qs io outs = ρ
  | [], _, _, _, _ => by unfold putIo; rfl
  | .dat d o :: qs, ρ, io, outs, h => by
    cases io with
    | nil => unfold putIo; rfl
    | cons o' io =>
      cases outs with
      | nil => unfold putIo; rfl
      | cons x outs => exact putIo_dat (qs := qs) (io := io) (outs := outs) h
  | .slot _ :: _, _, _, _, h => by cases h
/-- a call that changes nothing -/
theorem use_callP {con : Con} {sh : Shp} {p1 p2 qs : List Arg} {ρ : DEnv} {k : List Arg → DEnv → Prop} {xc : XC} {ds : List D} (l1 : p1.length = sh.n) (l2 : p2.length = sh.ks.length) (hp : pickA sh.plan (p1 ++ p2 ++ con.dfl.map fun d => .dat d .sh) = some qs) (ha : argD ρ qs con.io = some ds) (nd : slotsOf qs = []) (pre : con.pre ds)
    (post : ∀ r ro outs, outs.length = ds.length → con.post ds r ro outs → k [.dat r ro] ρ) (exc : ∀ e outs, outs.length = ds.length → con.exc ds e outs → xc e ρ) : callC con sh p1 p2 ρ k xc :=
  use_call l1 l2 hp ha (by rw [nd]; exact List.nodup_nil) pre (fun r ro outs h1 h2 => by rw [putIo_dat nd]; exact post r ro outs h1 h2) fun e outs h1 h2 => by rw [putIo_dat nd]; exact exc e outs h1 h2
/-- the items of a list, a tuple, a string -/
def seqD : D → Option (List D)
  | .lst xs => some xs
  | .tup xs => some xs
  | .str s => if s.length ≤ sizeLine then some (s.cps.toList.map fun c => .str ⟨#[c]⟩) else none
  | _ => none
theorem seq_len {l : D} {xs : List D} (h : seqD l = some xs) (k : D → Prop) : biW .len [l] k = k (.int xs.length) := by
  cases l with
  | lst ys => cases h; rfl
  | tup ys => cases h; rfl
  | str s =>
    have h : (if s.length ≤ sizeLine then some (s.cps.toList.map fun c => D.str ⟨#[c]⟩) else none) = some xs := h
    split at h
    · rename_i hz
      cases h
      rw [bi_lenS]
      simp only [hz, true_and, List.length_map, Array.length_toList]
      rfl
    · cases h
  | _ => cases h
theorem atI_in {α : Type} {xs : List α} {i : Int} (h : 0 ≤ i) (h2 : i < xs.length) : ∃ x, atI xs i = some x ∧ xs[i.toNat]? = some x := by
  have q : i.toNat < xs.length := by omega
  refine ⟨xs[i.toNat], ?_, List.getElem?_eq_getElem q⟩
  have := atI_nat (List.getElem?_eq_getElem q)
  rw [show ((i.toNat : Nat) : Int) = i by omega] at this
  exact this
theorem seq_ix {l : D} {xs : List D} {i : Int} {k : D → Prop} (h : seqD l = some xs) (h0 : 0 ≤ i) (h1 : i < xs.length) (hk : ∀ x, xs[i.toNat]? = some x → k x) : ixLW l (.int i) k := by
  cases l with
  | lst ys =>
    cases h
    obtain ⟨x, a1, a2⟩ := atI_in h0 h1
    exact ⟨x, a1, hk x a2⟩
  | tup ys =>
    cases h
    obtain ⟨x, a1, a2⟩ := atI_in h0 h1
    exact ⟨x, a1, hk x a2⟩
  | str s =>
    have h : (if s.length ≤ sizeLine then some (s.cps.toList.map fun c => D.str ⟨#[c]⟩) else none) = some xs := h
    split at h
    · rename_i hz
      cases h
      obtain ⟨c, a1, a2⟩ := atI_in (xs := s.cps.toList) h0 (by simpa using h1)
      exact ⟨hz, c, a1, hk _ (by rw [List.getElem?_map, a2]; rfl)⟩
    · cases h
  | _ => cases h
end DL
/-! LB1: the draws: begun, blend, take, pick. -/
namespace DL
open PySem PySem.Spec PyProof.Rows L2
set_option linter.all false
def dr (ws cs : List Int) (r u : Int) : D := .dic [(.inr "wide", .lst (ws.map .int)), (.inr "cells", .lst (cs.map .int)), (.inr "rest", .int r), (.inr "turn", .int u)]
def drO : Ow := .ownK (.inr "wide") (.own .sh) (.own .sh)
/-- the state of the draws, at most t mixed numbers so far -/
def Dr (t : Nat) (d : D) : Prop := ∃ ws cs r u, d = dr ws cs r u ∧ 0 ≤ u ∧ u ≤ t
theorem Dr.mono {t t' : Nat} {d : D} (h : Dr t d) (l : t ≤ t') : Dr t' d := let ⟨ws, cs, r, u, e, h1, h2⟩ := h; ⟨ws, cs, r, u, e, h1, by omega⟩
theorem k_ne : (("wide" : Str) = "rest") = False ∧ (("cells" : Str) = "rest") = False ∧ (("wide" : Str) = "cells") = False ∧ (("wide" : Str) = "turn") = False ∧ (("cells" : Str) = "turn") = False ∧ (("rest" : Str) = "turn") = False ∧ (("turn" : Str) = "rest") = False ∧ (("cells" : Str) = "wide") = False ∧ (("rest" : Str) = "wide") = False ∧ (("turn" : Str) = "wide") = False := by
  simp only [eq_iff_iff, iff_false]
  decide +kernel
/-- how many numbers were mixed -/
def trn (d : D) : Nat := match d with
  | .dic kvs => (match dget kvs (.inr "turn") with
    | some (.int u) => u.toNat
    | _ => 0)
  | _ => 0
theorem trn_dr {ws cs : List Int} {r u : Int} : trn (dr ws cs r u) = u.toNat := by simp [trn, dr, dget, k_ne]
theorem Dr.self {t : Nat} {d : D} (h : Dr t d) : Dr (trn d) d ∧ trn d ≤ t := by
  obtain ⟨ws, cs, r, u, rfl, h1, h2⟩ := h
  rw [trn_dr]
  exact ⟨⟨ws, cs, r, u, rfl, h1, by omega⟩, by omega⟩
def LIM : Nat := 100000000000000
def l_begun_c1 : M := (.cmp .ge (.var 2) (.bin .pow (.num 10) (.num 18)))
def l_begun_e1 : M := (.bin .sub (.var 2) (.bin .pow (.num 10) (.num 18)))
def l_begun : S := .seq (.asg 1 (.comp (.nm 2) .lst (.cons (.var 0) .nil) (.cons l_begun_c1 .nil) l_begun_e1)) (.seq (.ret (.dic (.cons (.txt "wide") (.cons (.mv 1) (.cons (.txt "cells") (.cons (.frz (.lstOf (.var 0))) (.cons (.txt "rest") (.cons (.num 0) (.cons (.txt "turn") (.cons (.num 0) .nil)))))))))) (.skip))
def l_begun_N : List Str := ["_law_script", "_law_wide", "_law_cell"]
def l_blend_b1 : S := .seq (.asg 3 (.bin .mod (.bi .int (.cons (.bin .add (.bin .mul (.var 3) (.num 69621)) (.var 4)) .nil)) (.var 2))) (.skip)
def l_blend_b2 : S := .seq (.asg 3 (.bin .add (.bin .mul (.num 91283) (.ixD (.var 0) (.txt "turn"))) (.bin .div (.var 2) (.num 19)))) (.seq (.loop (.nm 4) .lst (.cons (.ixD (.var 0) (.txt "cells")) .nil) (l_blend_b1)) (.seq (.asg 1 (.bin .add (.bin .mul (.var 1) (.num 2147483647)) (.bin .mod (.bi .int (.cons (.bin .pow (.var 3) (.num 5)) .nil)) (.var 2)))) (.skip)))
def l_blend : S := .seq (.setD (.var 0) (.txt "turn") (.bin .add (.ixD (.var 0) (.txt "turn")) (.num 1))) (.seq (.asg 1 (.num 0)) (.seq (.loop (.nm 2) .lst (.cons (.lst (.cons (.num 2147483629) (.cons (.num 2147483587) (.cons (.num 2147483579) (.cons (.num 2147483563) (.cons (.num 2147483549) (.cons (.num 2147483543) .nil))))))) .nil) (l_blend_b2)) (.seq (.ret (.var 1)) (.skip))))
def l_blend_N : List Str := ["_law_draw", "_law_found", "_law_prime", "_law_blend_here", "_law_cell"]
def l_take_t1 : S := .seq (.setD (.var 0) (.txt "rest") (.ite (.cmp .ne (.ixD (.var 0) (.txt "wide")) (.lst .nil)) (.popAt (.ixD (.var 0) (.txt "wide")) (.num 0)) (.call "_law_blend" (.cons (.io 0) .nil) .nil (shp 1)))) (.skip)
def l_take : S := .seq (.ite (.cmp .eq (.ixD (.var 0) (.txt "rest")) (.num 0)) (l_take_t1) (.skip)) (.seq (.asg 2 (.bin .mod (.bi .int (.cons (.ixD (.var 0) (.txt "rest")) .nil)) (.var 1))) (.seq (.setD (.var 0) (.txt "rest") (.bin .div (.ixD (.var 0) (.txt "rest")) (.var 1))) (.seq (.ret (.var 2)) (.skip))))
def l_take_N : List Str := ["_law_draw", "_law_size", "_law_found"]
def l_pick : S := .seq (.ret (.ixL (.var 1) (.call "_law_take" (.cons (.io 0) (.cons (.bi .len (.cons (.var 1) .nil)) .nil)) .nil (shp 2)))) (.skip)
def l_pick_N : List Str := ["_law_draw", "_law_some"]
def cBlend : Con where
  io := [drO]
  shp := [shp 1]
  pre := fun ds => ∃ d t, ds = [d] ∧ Dr t d ∧ t < LIM
  post := fun ds r ro outs => ro = .sh ∧ (∃ i, r = .int i) ∧ ∃ d d', ds = [d] ∧ outs = [d'] ∧ Dr (trn d + 1) d'
def cTake : Con where
  io := [drO, .sh]
  shp := [shp 2]
  pre := fun ds => ∃ d t n, ds = [d, .int n] ∧ Dr t d ∧ t < LIM ∧ 0 < n ∧ n < 2 ^ 64
  post := fun ds r ro outs => ro = .sh ∧ ∃ d d' n i, ds = [d, .int n] ∧ r = .int i ∧ 0 ≤ i ∧ i < n ∧ outs = [d', .int n] ∧ Dr (trn d + 1) d'
theorem drO_ne : (drO = Ow.sh) = False := by simp [drO]
local macro_rules | `(tactic| walk_at "wp") => `(tactic| simp only [wS, wE, wB, plW, M.isPl, M.quiet, Bool.and_true, Bool.true_and, Bool.and_self, Bool.and_false, Bool.false_and, Bool.false_eq_true, if_true, if_false, List.getElem?_cons_zero, List.getElem?_cons_succ, List.set_cons_zero, List.set_cons_succ, ixDW, toKey_int, toKey_str, cmp_eq, cmp_ne, cmp_in, cmp_nin, cmp_lt, cmp_le, cmp_gt, cmp_ge, cmp_is, cmp_isnot, truth_bl, flat_non, flat_bl, flat_int, flat_str, flat_lst, flat_tup, flat_dic, op_addI, op_addS, op_subI, op_mulI, op_divI, op_modI, op_powI, aug_addI, aug_subI, bi_lenL, bi_lenT, bi_lenD, bi_lenS, bi_intI, bi_min, bi_max, bi_all, it_lst, it_tup, it_str, it_rng, it_rng2, tgW_nm, opt_nil, opt_int, ixL_l, ixL_t, ixL_s, Option.some.injEq, exists_eq_left', exists_and_left, exists_eq_left, exists_eq_right, true_and, and_true, ite_true, reduceIte, List.cons_append, List.nil_append, List.append_nil, pick0, pick1, pick2, pick3, pick4, pick5, pick6, shp_n, shp_ks, List.length_cons, List.length_nil, List.map_nil, argD, slotsOf, putIo, drO_ne, ch_own, ch_sh, own_ne, ownK_ne, ne_eq, not_false_eq_true, and_self, Option.map_some, Prod.mk.injEq, datas, Nat.zero_add, Nat.reduceAdd, List.nodup_cons, List.nodup_nil, List.not_mem_nil, Arg.slot.injEq, clr, Tg.slots, true_or, or_true])
theorem dr_get {ws cs : List Int} {r u : Int} : ∃ kvs, dr ws cs r u = .dic kvs ∧ dget kvs (.inr "wide") = some (.lst (ws.map .int)) ∧ dget kvs (.inr "cells") = some (.lst (cs.map .int)) ∧ dget kvs (.inr "rest") = some (.int r) ∧ dget kvs (.inr "turn") = some (.int u) ∧ kvs.length = 4 ∧
    (∀ x, (D.dic kvs).updAt [.ky (.inr "wide")] (.lst (x.map .int)) = dr x cs r u) ∧ (∀ x, D.dic (dput kvs (.inr "rest") (.int x)) = dr ws cs x u) ∧ (∀ x, D.dic (dput kvs (.inr "turn") (.int x)) = dr ws cs r x) := by
  refine ⟨_, rfl, ?_, ?_, ?_, ?_, rfl, fun x => ?_, fun x => ?_, fun x => ?_⟩ <;> simp [dget, dput, dr, D.updAt, k_ne]
theorem log64 {n : Int} (h : 0 < n) (h2 : n < 2 ^ 64) : n.natAbs.log2 < 9000 := by
  have : n.natAbs < 2 ^ 64 := by omega
  have := (Nat.log2_lt (n := n.natAbs) (k := 64) (by omega)).mpr this
  omega
theorem w_take {T : Tab} (hb : T.fn "_law_blend" = some cBlend) (ds : List D) (hl : ds.length = cTake.io.length) (hp : cTake.pre ds) : wS T l_take (env0 3 ds cTake.io) (enC cTake ds) := by
  obtain ⟨d, t, n, rfl, ⟨ws, cs, r, u, rfl, h1, h2⟩, ht, hn, hn2⟩ := hp
  show wS T l_take [some (dr ws cs r u, drO), some (.int n, .sh), none] _
  unfold l_take
  refine cut fun K hK => ?_
  -- what is left, for any rest
  have fin : ∀ (ws' cs' : List Int) (r' u' : Int), 0 ≤ u' ∧ u' ≤ u + 1 → K [some (dr ws' cs' r' u', drO), some (.int n, .sh), none] := fun ws' cs' r' u' hd => hK _ (by
    refine cut fun K hK => ?_
    obtain ⟨kvs, e, g1, g2, g3, g4, g5, g6, g7, g8⟩ := @dr_get ws' cs' r' u'
    rw [e]
    walk_at "wp"
    simp only [g3, Option.some.injEq, exists_eq_left', bi_intI, op_modI, flat_int, true_and]
    refine ⟨hn, hK _ ?_⟩
    refine cut fun K hK => ?_
    walk_at "wp"
    simp only [g3, Option.some.injEq, exists_eq_left', op_divI, flat_int, true_or, true_and]
    refine ⟨⟨hn, log64 hn hn2⟩, _, _, _, ⟨rfl, rfl⟩, rfl, by rw [g5]; decide, hK _ ?_⟩
    refine cut fun K _ => ?_
    walk_at "wp"
    refine ⟨[D.dic (dput kvs (.inr "rest") (.int (r' / n))), .int n], by simp [outs0, cTake, drO, D.updAt], ?_⟩
    refine ⟨rfl, _, _, n, _, rfl, rfl, Int.emod_nonneg _ (by omega), Int.emod_lt_of_pos _ hn, rfl, ?_⟩
    rw [g7, trn_dr]
    exact ⟨_, _, _, _, rfl, by omega, by omega⟩)
  walk_at "wp"
  obtain ⟨kvs, e, g1, g2, g3, g4, g5, g6, g7, g8⟩ := @dr_get ws cs r u
  rw [e]
  simp only [g3, Option.some.injEq, exists_eq_left']
  refine eqInt ?_
  split
  · unfold l_take_t1
    refine cut fun K' hK' => ?_
    have skip : ∀ ρ, K ρ → K' ρ := fun ρ h => hK' ρ h
    walk_at "wp"
    simp only [g1, Option.some.injEq, exists_eq_left', hb]
    refine ⟨by decide, eqNil ?_⟩
    split
    · rename_i hw
      cases ws with
      | nil => simp at hw
      | cons w ws =>
      refine ⟨by simp [drO, Ow.child], 0, .int w, _, _, ⟨rfl, rfl⟩, by decide, by decide, by simp [ixN], rfl, ?_⟩
      have e2 := g6 ws
      simp only [List.map_cons, List.eraseIdx_cons_zero]
      rw [e2]
      obtain ⟨kvs', e', g1', g2', g3', g4', g5', g6', g7', g8'⟩ := @dr_get ws cs r u
      rw [e']
      refine ⟨by simp [drO], _, .inl rfl, _, _, ⟨rfl, rfl⟩, rfl, by rw [g5']; decide, ?_⟩
      have := fin ws cs w u ⟨h1, by omega⟩
      rw [← g7'] at this
      exact skip _ this
    · refine ⟨by simp [cBlend], ?_⟩
      refine use_call rfl rfl rfl (ds := [D.dic kvs]) (by simp [argD, cBlend, drO]) (by simp [slotsOf]) ?_ (fun r1 ro outs _ hpo => ?_) fun e outs _ z => z.elim
      · exact ⟨_, t, rfl, ⟨_, _, _, _, e.symm, h1, h2⟩, ht⟩
      obtain ⟨rfl, ⟨i, rfl⟩, d0, d', q0, rfl, hd⟩ := hpo
      cases q0
      rw [← e, trn_dr] at hd
      obtain ⟨ws', cs', r', u', rfl, q1, q2⟩ := hd
      obtain ⟨kvs', e', g1', g2', g3', g4', g5', g6', g7', g8'⟩ := @dr_get ws' cs' r' u'
      simp only [cBlend, putIo, List.set_cons_zero, List.getElem?_cons_zero, e']
      refine ⟨by simp [drO], _, .inl rfl, _, _, rfl, rfl, by rw [g5']; decide, ?_⟩
      have := fin ws' cs' i u' ⟨q1, by omega⟩
      rw [← g7'] at this
      exact skip _ this
  · have := fin ws cs r u ⟨h1, by omega⟩
    rw [e] at this
    exact this
theorem use_take {i : Nat} {ρ : DEnv} {k : List Arg → DEnv → Prop} {xc : XC} {d : D} {t : Nat} {n : Int} {on : Ow} (hi : ρ[i]? = some (some (d, drO))) (hd : Dr t d) (ht : t < LIM) (h0 : 0 < n) (h1 : n < 2 ^ 64) (hk : ∀ d' j, Dr (t + 1) d' → 0 ≤ j → j < n → k [.dat (.int j) .sh] (ρ.set i (some (d', drO)))) :
    callC cTake (shp 2) [.slot i, .dat (.int n) on] [] ρ k xc := by
  refine use_call rfl rfl rfl (ds := [d, .int n]) (by simp [argD, cTake, drO, hi]) (by simp [slotsOf]) ⟨d, t, n, rfl, hd, ht, h0, h1⟩ (fun r ro outs _ h => ?_) fun e outs _ z => z.elim
  obtain ⟨rfl, d0, d', n0, j, e, rfl, j0, j1, rfl, hd'⟩ := h
  cases e
  exact hk d' j (hd'.mono (by have := hd.self.2; omega)) j0 j1
def cPick : Con where
  io := [drO, .sh]
  shp := [shp 2]
  pre := fun ds => ∃ d t l xs, ds = [d, l] ∧ seqD l = some xs ∧ Dr t d ∧ t < LIM ∧ 0 < xs.length ∧ xs.length < 2 ^ 64
  post := fun ds r ro outs => ∃ d d' l xs, ds = [d, l] ∧ seqD l = some xs ∧ r ∈ xs ∧ ro = .sh ∧ outs = [d', l] ∧ Dr (trn d + 1) d'
theorem cTake_sh : (shp 2 ∈ cTake.shp) = True := by simp [cTake]
theorem cPick_sh : (shp 2 ∈ cPick.shp) = True := by simp [cPick]
theorem w_pick {T : Tab} (hb : T.fn "_law_take" = some cTake) (ds : List D) (hl : ds.length = cPick.io.length) (hp : cPick.pre ds) : wS T l_pick (env0 2 ds cPick.io) (enC cPick ds) := by
  obtain ⟨d, t, l, xs, rfl, hs, hd, ht, h0, h1⟩ := hp
  show wS T l_pick [some (d, drO), some (l, .sh)] _
  unfold l_pick
  refine cut fun K _ => ?_
  walk_at "wp"
  simp only [seq_len hs, hb, cTake_sh, true_and, flat_int]
  refine use_take rfl hd.self.1 (Nat.lt_of_le_of_lt hd.self.2 ht) (by omega) (by omega) fun d' j hd' j0 j1 => ?_
  walk_at "wp"
  exact seq_ix hs j0 j1 fun x hx => ⟨[d', l], by simp [outs0, cPick, drO], _, _, _, _, rfl, hs, List.mem_of_getElem? hx, rfl, rfl, hd'⟩
theorem use_pick {i : Nat} {ρ : DEnv} {k : List Arg → DEnv → Prop} {xc : XC} {d l : D} {t : Nat} {xs : List D} {ol : Ow} (hi : ρ[i]? = some (some (d, drO))) (hd : Dr t d) (ht : t < LIM) (hs : seqD l = some xs) (h0 : 0 < xs.length) (h1 : xs.length < 2 ^ 64) (hk : ∀ d' x, Dr (t + 1) d' → x ∈ xs → k [.dat x .sh] (ρ.set i (some (d', drO)))) :
    callC cPick (shp 2) [.slot i, .dat l ol] [] ρ k xc := by
  refine use_call rfl rfl rfl (ds := [d, l]) (by simp [argD, cPick, drO, hi]) (by simp [slotsOf]) ⟨d, t, l, xs, rfl, hs, hd, ht, h0, h1⟩ (fun r ro outs _ h => ?_) fun e outs _ z => z.elim
  obtain ⟨d0, d', l0, xs0, e, hs', hr, rfl, rfl, hd'⟩ := h
  cases e
  rw [hs] at hs'
  cases hs'
  exact hk d' r (hd'.mono (by have := hd.self.2; omega)) hr
def primes : List Int := [2147483629, 2147483587, 2147483579, 2147483563, 2147483549, 2147483543]
theorem prime_ok : ∀ p ∈ primes, 2 ^ 30 < p ∧ p < 2 ^ 31 := by decide
theorem slots5 {ρ : DEnv} (h : ρ.length = 5) : ∃ a b c d e, ρ = [a, b, c, d, e] := by
  match ρ, h with
  | [a, b, c, d, e], _ => exact ⟨a, b, c, d, e, rfl⟩
theorem w_blend {T : Tab} (ds : List D) (hl : ds.length = cBlend.io.length) (hp : cBlend.pre ds) : wS T l_blend (env0 5 ds cBlend.io) (enC cBlend ds) := by
  obtain ⟨d, t, rfl, ⟨ws, cs, r, u, rfl, h1, h2⟩, ht⟩ := hp
  show wS T l_blend [some (dr ws cs r u, drO), none, none, none, none] _
  unfold l_blend
  refine cut fun K hK => ?_
  obtain ⟨kvs, e, g1, g2, g3, g4, g5, g6, g7, g8⟩ := @dr_get ws cs r u
  rw [e]
  walk_at "wp"
  refine ⟨_, g4, ?_⟩
  walk_at "wp"
  refine ⟨_, _, _, ⟨rfl, rfl⟩, rfl, by rw [g5]; decide, ?_⟩
  show K [some (D.dic (dput kvs (Sum.inr "turn") (D.int (u + 1))), drO), none, none, none, none]
  rw [g8]
  refine hK _ (cut fun K1 hK1 => ?_)
  walk_at "wp"
  refine hK1 _ (cut fun K2 hK2 => ?_)
  obtain ⟨kvs', e', g1', g2', g3', g4', g5', g6', g7', g8'⟩ := @dr_get ws cs r (u + 1)
  walk_at "wp"
  refine ⟨by decide, ?_⟩
  refine for_inv (fun _ ρ => ∃ (f : Int) (a b c : Option (D × Ow)), ρ = [some (dr ws cs r (u + 1), drO), some (.int f, .sh), a, b, c]) ⟨0, none, none, none, rfl⟩ ?_ ?_
  · rintro j d ρ hd ⟨f, a, b, c, rfl⟩
    have hp : ∃ p : Int, d = .int p ∧ 2 ^ 30 < p ∧ p < 2 ^ 31 := by
      have hm := List.mem_of_getElem? hd
      have : [D.int 2147483629, D.int 2147483587, D.int 2147483579, D.int 2147483563, D.int 2147483549, D.int 2147483543] = primes.map D.int := rfl
      rw [this] at hm
      obtain ⟨p, hp, rfl⟩ := List.mem_map.mp hm
      exact ⟨p, rfl, prime_ok p hp⟩
    obtain ⟨p, rfl, p1, p2⟩ := hp
    refine ⟨_, rfl, fun k hk => ?_⟩
    rw [e']
    rw [e'] at hk
    unfold l_blend_b2
    refine cut fun K3 hK3 => ?_
    walk_at "wp"
    refine ⟨_, g4', ?_⟩
    walk_at "wp"
    refine ⟨.inl (.inl (by decide)), ⟨by decide, by decide⟩, hK3 _ ?_⟩
    refine cut fun K4 hK4 => ?_
    walk_at "wp"
    refine ⟨_, g2', .inr rfl, ?_⟩
    walk_at "wp"
    refine for_inv (fun _ ρ => ∃ (x : Int) (y : Option (D × Ow)), ρ = [some (.dic kvs', drO), some (.int f, .sh), some (.int p, .sh), some (.int x, .sh), y] ∧ x.natAbs < 2 ^ 64) ⟨_, c, rfl, ?_⟩ ?_ ?_
    · unfold LIM at ht
      have h3 : (p / 19) ≤ p := Int.ediv_le_self _ (by omega)
      have h4 : 0 ≤ p / 19 := Int.ediv_nonneg (by omega) (by decide)
      omega
    · rintro j d ρ hd ⟨x, y, rfl, hx⟩
      rw [List.getElem?_map] at hd
      cases q : cs[j]? with
      | none => rw [q] at hd; cases hd
      | some z =>
      rw [q] at hd
      cases hd
      refine ⟨_, rfl, fun k hk => ?_⟩
      unfold l_blend_b1
      refine cut fun K5 hK5 => ?_
      walk_at "wp"
      refine ⟨.inl (.inr (by decide)), by omega, hK5 _ ?_⟩
      walk_at "wp"
      refine hk _ ⟨_, _, rfl, ?_⟩
      have h5 := Int.emod_nonneg (x * 69621 + z) (show p ≠ 0 by omega)
      have h6 := Int.emod_lt_of_pos (x * 69621 + z) (show 0 < p by omega)
      omega
    · rintro ρ ⟨x, y, rfl, hx⟩
      refine hK4 _ (cut fun K5 hK5 => ?_)
      walk_at "wp"
      refine ⟨.inl (.inr (by decide)), ⟨by decide, by decide, hx⟩, by omega, hK5 _ ?_⟩
      walk_at "wp"
      exact hk _ ⟨_, _, _, _, rfl⟩
  · rintro ρ ⟨f, a, b, c, rfl⟩
    refine hK2 _ (cut fun K3 hK3 => ?_)
    walk_at "wp"
    refine ⟨[dr ws cs r (u + 1)], by simp [outs0, cBlend, drO], rfl, ⟨f, rfl⟩, _, _, rfl, rfl, ?_⟩
    rw [trn_dr]
    exact ⟨_, _, _, _, rfl, by omega, by omega⟩
def cBegun : Con where
  io := [.sh]
  shp := [shp 1]
  pre := fun ds => ∃ ns : List Int, ds = [.lst (ns.map .int)] ∧ ns.length ≤ 1000
  post := fun _ r ro _ => Dr 0 r ∧ ro = drO
theorem w_begun {T : Tab} (ds : List D) (hl : ds.length = cBegun.io.length) (hp : cBegun.pre ds) : wS T l_begun (env0 3 ds cBegun.io) (enC cBegun ds) := by
  obtain ⟨ns, rfl, hn⟩ := hp
  show wS T l_begun [some (.lst (ns.map .int), .sh), none, none] _
  unfold l_begun
  refine cut fun K hK => ?_
  walk_at "wp"
  refine ⟨.sh, ?_⟩
  refine comp_inv0 (fun j acc ρ => (∃ ws : List Int, acc = ws.map .int ∧ ws.length ≤ j) ∧ ρ = [some (.lst (ns.map .int), .sh), none, none]) ⟨⟨[], rfl, Nat.le_refl _⟩, rfl⟩ ?_ ?_
  · rintro j d acc ρ hd ⟨⟨ws, rfl, hw⟩, rfl⟩
    rw [List.getElem?_map] at hd
    cases q : ns[j]? with
    | none => rw [q] at hd; cases hd
    | some z =>
    have hj := (List.getElem?_eq_some_iff.mp q).1
    rw [q] at hd
    cases hd
    refine ⟨_, rfl, fun k h1 h2 => ?_⟩
    unfold l_begun_c1
    walk_at "wp"
    refine ⟨⟨by decide, by decide, by decide⟩, ?_⟩
    split
    · unfold l_begun_e1
      walk_at "wp"
      refine ⟨⟨by decide, by decide, by decide⟩, ?_⟩
      refine h1 _ _ _ ⟨?_, .inl rfl, ⟨ws ++ [z - 10 ^ Int.toNat 18], by simp, by simpa using hw⟩, rfl⟩
      rw [List.length_map]
      exact Nat.lt_of_le_of_lt hw (Nat.lt_of_lt_of_le hj (Nat.le_trans hn (by decide)))
    · exact h2 _ ⟨⟨ws, rfl, by omega⟩, rfl⟩
  · rintro acc ρ ⟨⟨ws, rfl, hw⟩, rfl⟩
    refine hK _ (cut fun K3 hK3 => ?_)
    walk_at "wp"
    simp only [pairUp, toKey_str, dicD, dicOw, flat_lst, flat_int, Option.map_some, own_ne, Bool.false_eq_true, if_false, if_true, true_or, or_true, or_self, false_or]
    refine ⟨?_, by simp, [_], rfl, ⟨ws, ns, 0, 0, rfl, by decide, by decide⟩, rfl⟩
    simp [k_ne]
end DL
/-! K02a: is_name, and the law of k02. -/
namespace DL
open PySem PySem.Spec PyProof.Rows L2
set_option linter.all false
local macro_rules | `(tactic| walk_at "wp") => `(tactic| simp only [wS, wE, wB, plW, M.isPl, M.quiet, Bool.and_true, Bool.true_and, Bool.and_self, Bool.and_false, Bool.false_and, Bool.false_eq_true, if_true, if_false, List.getElem?_cons_zero, List.getElem?_cons_succ, List.set_cons_zero, List.set_cons_succ, ixDW, toKey_int, toKey_str, cmp_eq, cmp_ne, cmp_in, cmp_nin, cmp_lt, cmp_le, cmp_gt, cmp_ge, cmp_is, cmp_isnot, truth_bl, flat_non, flat_bl, flat_int, flat_str, flat_lst, flat_tup, flat_dic, op_addI, op_addS, op_subI, op_mulI, op_divI, op_modI, op_powI, aug_addI, aug_subI, bi_lenL, bi_lenT, bi_lenD, bi_lenS, bi_intI, bi_min, bi_max, bi_all, it_lst, it_tup, it_str, it_rng, it_rng2, tgW_nm, opt_nil, opt_int, ixL_l, ixL_t, ixL_s, Option.some.injEq, exists_eq_left', exists_and_left, exists_eq_left, exists_eq_right, true_and, and_true, ite_true, reduceIte, List.cons_append, List.nil_append, List.append_nil, pick0, pick1, pick2, pick3, pick4, pick5, pick6, shp_n, shp_ks, List.length_cons, List.length_nil, List.map_nil, argD, slotsOf, putIo, drO_ne, ch_own, ch_sh, own_ne, ownK_ne, ne_eq, not_false_eq_true, and_self, Option.map_some, Prod.mk.injEq, datas, Nat.zero_add, Nat.reduceAdd, List.nodup_cons, List.nodup_nil, List.not_mem_nil, Arg.slot.injEq, clr, Tg.slots, true_or, or_true])
def p_is_name_e1 : M := (.cmp .in_ (.var 1) (.gcon "LETTERS"))
def p_is_name : S := .seq (.ite (.or (.not (.isa (.var 0) [.bt "str"])) (.not (.chn .le .le (.num 1) (.bi .len (.cons (.var 0) .nil)) (.gcon "LONGEST_NAME")))) (.seq (.ret (.boo false)) (.skip)) (.skip)) (.seq (.ret (.bi .all (.cons (.comp (.nm 1) .str (.cons (.var 0) .nil) .nil p_is_name_e1) .nil))) (.skip))
def p_law_t1 : S := .seq (.asgs [7, 9] (.cons (.call "_law_pick" (.cons (.io 1) (.cons (.var 4) .nil)) .nil (shp 2)) (.cons (.boo false) .nil))) (.skip)
def p_law_t2 : S := .seq (.asg 10 (.call "_law_take" (.cons (.io 1) (.cons (.bin .add (.bi .len (.cons (.var 7) .nil)) (.num 1)) .nil)) .nil (shp 2))) (.seq (.asg 7 (.bin .add (.bin .add (.sliS (.var 7) .nil (.cons (.var 10) .nil)) (.call "_law_pick" (.cons (.io 1) (.cons (.var 3) .nil)) .nil (shp 2))) (.sliS (.var 7) (.cons (.bin .add (.var 10) (.call "_law_take" (.cons (.io 1) (.cons (.num 2) .nil)) .nil (shp 2))) .nil) .nil))) (.seq (.asg 9 (.boo false)) (.skip)))
def p_law_e1 : M := (.call "_law_pick" (.cons (.io 1) (.cons (.var 2) .nil)) .nil (shp 2))
def p_law_b1 : S := .seq (.asg 6 (.call "_law_pick" (.cons (.io 1) (.cons (.lst (.cons (.num 0) (.cons (.num 1) (.cons (.num 1) (.cons (.num 2) (.cons (.num 3) (.cons (.num 5) (.cons (.num 7) (.cons (.num 8) (.cons (.num 8) (.cons (.num 9) (.cons (.num 9) (.cons (.num 20) .nil))))))))))))) .nil)) .nil (shp 2))) (.seq (.asg 7 (.join (.txt "") (.comp (.nm 8) .rng (.cons (.var 6) .nil) .nil p_law_e1))) (.seq (.asg 9 (.chn .lt .lt (.num 0) (.bi .len (.cons (.var 7) .nil)) (.num 9))) (.seq (.ite (.cmp .eq (.call "_law_take" (.cons (.io 1) (.cons (.num 3) .nil)) .nil (shp 2)) (.num 0)) (p_law_t2) (.skip)) (.seq (.ite (.cmp .eq (.call "_law_take" (.cons (.io 1) (.cons (.num 5) .nil)) .nil (shp 2)) (.num 0)) (p_law_t1) (.skip)) (.seq (.ite (.cmp .ne (.rep (.lst (.cons (.call "is_name" (.cons (.var 7) .nil) .nil (shp 1)) (.cons (.call "is_name" .nil (.cons (.var 7) .nil) ⟨0, ["value"], [0]⟩) .nil)))) (.rep (.lst (.cons (.var 9) (.cons (.var 9) .nil))))) (.seq (.ret (.boo false)) (.skip)) (.skip)) (.skip))))))
def p_law : S := .seq (.asg 1 (.call "_law_begun" (.cons (.var 0) .nil) .nil (shp 1))) (.seq (.asg 2 (.txt "abcdefghijklmnopqrstuvwxyz")) (.seq (.asg 3 (.txt " !#$&'()*+,-./0123456789:;<=>?@ABCDEFGHIJKLMNOPQRSTUVWXYZ[]^_`{|}~\n")) (.seq (.asg 4 (.frz (.lst (.cons .non (.cons (.num 5) (.cons (.boo true) (.cons (.lst (.cons (.txt "a") .nil)) (.cons (.tup (.cons (.txt "a") (.cons (.txt "b") .nil))) (.cons (.dic (.cons (.txt "a") (.cons (.txt "a") .nil))) (.cons (.lst .nil) (.cons (.tup .nil) (.cons (.dic .nil) (.cons (.num 0) (.cons (.boo false) .nil)))))))))))))) (.seq (.loop (.nm 5) .rng (.cons (.bin .add (.num 4) (.bi .min (.cons (.bi .len (.cons (.var 0) .nil)) (.cons (.num 40) .nil)))) .nil) (p_law_b1)) (.seq (.ret (.boo true)) (.skip))))))
def letters : Str := "abcdefghijklmnopqrstuvwxyz"
/-- a string of one to eight small letters -/
def isNm (s : Str) : Bool := decide (1 ≤ s.length ∧ s.length ≤ 8) && s.cps.toList.all fun c => decide (c ∈ letters.cps.toList)
def isNmD : D → Bool
  | .str s => isNm s
  | _ => false
def cIsName : Con where
  io := [.sh]
  shp := [shp 1, ⟨0, ["value"], [0]⟩]
  pre := fun ds => ∃ d, ds = [d] ∧ tyn d ≠ "" ∧ ∀ s, d = .str s → s.length ≤ 1000
  post := fun ds r ro outs => ∃ d, ds = [d] ∧ r = .bl (isNmD d) ∧ ro = .sh ∧ outs = [d]
theorem isa_str {d : D} : ([Ty.bt "str"].any d.isa) = (match d with | .str _ => true | _ => false) := by
  cases d <;> rfl
theorem asBools : ∀ bs : List Bool, (bs.map D.bl).mapM D.asBool = some bs
  | [] => rfl
  | b :: bs => by
    rw [List.map_cons, List.mapM_cons, asBools bs]
    rfl
theorem all_bools (bs : List Bool) (k : D → Prop) : allW (bs.map D.bl) k = k (.bl (bs.all id)) := by
  unfold allW
  rw [asBools]
theorem w_isName {T : Tab} (h1 : T.con "LETTERS" = some (.str letters)) (h2 : T.con "LONGEST_NAME" = some (.int 8)) (ds : List D) (hl : ds.length = cIsName.io.length) (hp : cIsName.pre ds) : wS T p_is_name (env0 2 ds cIsName.io) (enC cIsName ds) := by
  obtain ⟨d, rfl, hd, hs⟩ := hp
  show wS T p_is_name [some (d, .sh), none] _
  unfold p_is_name
  refine cut fun K hK => ?_
  have ret : ∀ ρ b, ρ = [some (d, Ow.sh), none] → b = isNmD d → (enC cIsName [d]).rt (.bl b) .sh ρ := fun ρ b e1 e2 => by
    subst e1 e2
    exact ⟨[d], by simp [outs0, cIsName], d, rfl, rfl, rfl, rfl⟩
  walk_at "wp"
  refine ⟨hd, ?_⟩
  rw [isa_str]
  cases d with
  | str s =>
    have hz : s.length ≤ sizeLine := Nat.le_trans (hs s rfl) (by decide)
    simp only [h1, h2, Bool.not_true, Bool.false_eq_true, if_false]
    walk_at "wp"
    refine ⟨hz, ?_⟩
    have short : ∀ (b : Bool), b = decide ((1 : Int) ≤ s.length ∧ (s.length : Int) ≤ 8) → b = false → isNmD (.str s) = false := fun b e1 e2 => by
      subst e1
      have e2 := of_decide_eq_false e2
      show (decide (1 ≤ s.length ∧ s.length ≤ 8) && _) = false
      rw [decide_eq_false (by omega)]
      rfl
    have longK : (1 : Int) ≤ s.length → (s.length : Int) ≤ 8 → K [some (.str s, .sh), none] := fun q1 q2 => hK _ (by
      refine cut fun K1 _ => ?_
      walk_at "wp"
      refine ⟨.sh, ?_⟩
      refine comp_inv0 (fun j acc ρ => acc = (s.cps.toList.take j).map (fun c => D.bl (decide (c ∈ letters.cps.toList))) ∧ ρ = [some (.str s, .sh), none]) ⟨rfl, rfl⟩ ?_ ?_
      · rintro j d acc ρ hj ⟨rfl, rfl⟩
        rw [List.getElem?_map] at hj
        cases q : s.cps.toList[j]? with
        | none => rw [q] at hj; cases hj
        | some c =>
        rw [q] at hj
        cases hj
        have hjl := (List.getElem?_eq_some_iff.mp q).1
        refine ⟨_, rfl, fun k g1 g2 => ?_⟩
        unfold p_is_name_e1
        walk_at "wp"
        simp only [h1]
        refine ⟨rfl, c, rfl, g1 _ _ _ ⟨?_, .inl rfl, ?_, rfl⟩⟩
        · rw [List.length_map, List.length_take]
          have : s.cps.toList.length = s.length := Array.length_toList
          have := hs s rfl
          have h4 : (1000 : Nat) < sizeLine := by decide
          omega
        · rw [List.take_add_one, q, List.map_append]; rfl
      · rintro acc ρ ⟨rfl, rfl⟩
        rw [List.length_map, List.take_length]
        rw [show (s.cps.toList.map fun c => D.bl (decide (c ∈ letters.cps.toList))) = (s.cps.toList.map fun c => decide (c ∈ letters.cps.toList)).map D.bl by rw [List.map_map]; rfl, all_bools]
        refine ret _ _ rfl ?_
        show _ = (decide (1 ≤ s.length ∧ s.length ≤ 8) && _)
        rw [decide_eq_true (by omega), Bool.true_and, List.all_map]
        rfl)
    by_cases q1 : (1 : Int) ≤ s.length
    · simp only [q1, decide_true, if_true]
      by_cases q2 : (s.length : Int) ≤ 8
      · simp only [q2, decide_true, Bool.not_true, Bool.false_eq_true, if_false]
        exact longK q1 q2
      · simp only [q2, decide_false, Bool.not_false, if_true]
        exact ret _ _ rfl (short (decide ((1 : Int) ≤ s.length ∧ (s.length : Int) ≤ 8)) rfl (decide_eq_false fun h => q2 h.2)).symm
    · simp only [q1, decide_false, Bool.false_eq_true, if_false, Bool.not_false, if_true]
      exact ret _ _ rfl (short (decide ((1 : Int) ≤ s.length ∧ (s.length : Int) ≤ 8)) rfl (decide_eq_false fun h => q1 h.1)).symm
  | _ =>
    simp only [Bool.not_false, if_true]
    exact ret _ _ rfl rfl
/-! ### texts -/
def chars (cs : List Nat) : Str := ⟨cs.toArray⟩
theorem chars_len (cs : List Nat) : (chars cs).length = cs.length := by simp [chars, Str.length]
theorem chars_tl (cs : List Nat) : (chars cs).cps.toList = cs := by simp [chars]
theorem chars_app (a b : List Nat) : chars a ++ chars b = chars (a ++ b) := SX.S_cat a b
theorem chars_of (s : Str) : s = chars s.cps.toList := by cases s; simp [chars]
theorem join_chars (cs : List Nat) : Txt.join "" (cs.map fun c => (⟨#[c]⟩ : Str)) = chars cs := by
  have e : cs.map (fun c => (⟨#[c]⟩ : Str)) = (cs.map fun c => [c]).map SX.S := by rw [List.map_map]; rfl
  have e2 : ("" : Str) = SX.S [] := by decide +kernel
  rw [e, e2, SX.join_S]
  have : ∀ l : List Nat, TL.joinL [] (l.map fun c => [c]) = l := fun l => by
    induction l with
    | nil => rfl
    | cons a l ih =>
      cases l with
      | nil => rfl
      | cons b l => exact congrArg (a :: ·) ih
  rw [this]; rfl
theorem cut_sub {cs : List Nat} {lo hi : Option Int} : ∃ l, cutS (chars cs) lo hi = chars l ∧ l.length ≤ cs.length := by
  refine ⟨_, rfl, ?_⟩
  rw [List.length_take, List.length_drop, chars_tl]
  omega
theorem strs_chars (cs : List Nat) : D.strs (cs.map fun c => D.str ⟨#[c]⟩) = some (cs.map fun c => (⟨#[c]⟩ : Str)) := by
  induction cs with
  | nil => rfl
  | cons c cs ih =>
    show (D.strs (cs.map fun c => D.str ⟨#[c]⟩)).map _ = _
    rw [ih]; rfl
theorem sum_ones (cs : List Nat) : ((cs.map fun c => (⟨#[c]⟩ : Str)).map (·.length)).sum = cs.length := by
  induction cs with
  | nil => rfl
  | cons c cs ih =>
    show 1 + ((cs.map fun c => (⟨#[c]⟩ : Str)).map (·.length)).sum = cs.length + 1
    rw [ih]; omega
theorem eqStr {a b : Str} {k : Bool → Prop} (ha : PyData.strOk a = true) (hb : PyData.strOk b = true) (h : k (a == b)) : eqW (.str a) (.str b) k :=
  ⟨by show (PyData.strOk a && decide (0 ≤ 64)) = true; rw [ha]; rfl, by show (PyData.strOk b && decide (0 ≤ 64)) = true; rw [hb]; rfl, h⟩
def sh2 (b : Bool) : Str := (PyData.list [.bool b, .bool b]).shown
theorem sh2_ok : ∀ b, (PyData.list [.bool b, .bool b]).showable = true ∧ (PyData.list [.bool b, .bool b]).depth ≤ 40 ∧ (PyData.list [.bool b, .bool b]).hasDict = false ∧ (PyData.list [.bool b, .bool b]).shown.length ≤ sizeLine ∧ PyData.strOk (sh2 b) = true := by decide +kernel
def signs : Str := " !#$&'()*+,-./0123456789:;<=>?@ABCDEFGHIJKLMNOPQRSTUVWXYZ[]^_`{|}~\n"
def odd : List D := [.non, .int 5, .bl true, .lst [.str "a"], .tup [.str "a", .str "b"], .dic [(.inr "a", .str "a")], .lst [], .tup [], .dic [], .int 0, .bl false]
theorem odd_ok : ∀ d ∈ odd, tyn d ≠ "" ∧ isNmD d = false ∧ ∀ s, d ≠ .str s := by
  intro d hd
  simp only [odd, List.mem_cons, List.not_mem_nil, or_false] at hd
  rcases hd with rfl | rfl | rfl | rfl | rfl | rfl | rfl | rfl | rfl | rfl | rfl <;> exact ⟨by decide, rfl, fun s => by simp⟩
theorem signs_ok : ∀ c ∈ signs.cps.toList, c ∉ letters.cps.toList := by decide +kernel
theorem lens_ok : signs.length = 67 ∧ letters.length = 26 := by decide +kernel
theorem isNm_bad {cs : List Nat} {c : Nat} (h : c ∈ cs) (h2 : c ∉ letters.cps.toList) : isNmD (.str (chars cs)) = false := by
  show (_ && (chars cs).cps.toList.all _) = false
  rw [chars_tl]
  have : (cs.all fun c => decide (c ∈ letters.cps.toList)) = false := by
    rw [List.all_eq_false]
    exact ⟨c, h, by simp [h2]⟩
  rw [this, Bool.and_false]
theorem isNm_good {cs : List Nat} (h : ∀ c ∈ cs, c ∈ letters.cps.toList) : isNmD (.str (chars cs)) = (decide ((0 : Int) < cs.length) && decide ((cs.length : Int) < 9)) := by
  show (decide (1 ≤ (chars cs).length ∧ (chars cs).length ≤ 8) && (chars cs).cps.toList.all _) = _
  rw [chars_tl, chars_len]
  have : (cs.all fun c => decide (c ∈ letters.cps.toList)) = true := by
    rw [List.all_eq_true]
    exact fun c hc => by simp [h c hc]
  rw [this, Bool.and_true, ← Bool.decide_and]
  congr 1
  simp only [eq_iff_iff]
  omega
theorem seqD_str {s : Str} (h : s.length ≤ sizeLine) : seqD (.str s) = some (s.cps.toList.map fun c => D.str ⟨#[c]⟩) := if_pos h
theorem tyn_str (s : Str) : tyn (.str s) ≠ "" := by show "str" ≠ ""; decide
def cLaw : Con where
  io := [.sh]
  shp := [shp 1]
  pre := fun ds => ∃ ns : List Int, ds = [.lst (ns.map .int)] ∧ ns.length ≤ 63
  post := fun _ r _ _ => r = .bl true
theorem cBegun_sh : (shp 1 ∈ cBegun.shp) = True := by simp [cBegun]
theorem cIsName_sh : (shp 1 ∈ cIsName.shp) = True := by simp [cIsName]
theorem cIsName_sh2 : ((⟨0, ["value"], [0]⟩ : Shp) ∈ cIsName.shp) = True := by simp [cIsName]
abbrev st (sc d : D) (a b c e f g : Option (D × Ow)) : DEnv := [some (sc, .sh), some (d, drO), some (.str letters, .sh), some (.str signs, .sh), some (.lst odd, .sh), a, b, c, e, f, g]
theorem use_isName {d : D} {sh : Shp} {p1 p2 : List Arg} {o : Ow} {ρ : DEnv} {k : List Arg → DEnv → Prop} {xc : XC} (h : (sh = shp 1 ∧ p1 = [.dat d o] ∧ p2 = []) ∨ (sh = ⟨0, ["value"], [0]⟩ ∧ p1 = [] ∧ p2 = [.dat d o])) (hd : tyn d ≠ "") (hs : ∀ s, d = .str s → s.length ≤ 1000) (hk : k [.dat (.bl (isNmD d)) .sh] ρ) : callC cIsName sh p1 p2 ρ k xc := by
  rcases h with ⟨rfl, rfl, rfl⟩ | ⟨rfl, rfl, rfl⟩
  all_goals
    refine use_callP rfl rfl rfl (ds := [d]) rfl rfl ⟨d, rfl, hd, hs⟩ (fun r ro outs _ h => ?_) fun e outs _ z => z.elim
    obtain ⟨d', e1, rfl, rfl, _⟩ := h
    cases e1
    exact hk
/-- the last row of a turn: the answers are those that are due -/
theorem w_end {T : Tab} (hN : T.fn "is_name" = some cIsName) {E : En} {K : DEnv → Prop} {sc d it : D} {a b e g : Option (D × Ow)} {due : Bool} (h1 : tyn it ≠ "") (h2 : ∀ s, it = .str s → s.length ≤ 1000) (h3 : isNmD it = due) (hK : K (st sc d a b (some (it, .sh)) e (some (.bl due, .sh)) g)) :
    wS T (.ite (.cmp .ne (.rep (.lst (.cons (.call "is_name" (.cons (.var 7) .nil) .nil (shp 1)) (.cons (.call "is_name" .nil (.cons (.var 7) .nil) ⟨0, ["value"], [0]⟩) .nil)))) (.rep (.lst (.cons (.var 9) (.cons (.var 9) .nil))))) (.seq (.ret (.boo false)) (.skip)) (.skip)) (st sc d a b (some (it, .sh)) e (some (.bl due, .sh)) g) { E with nx := K } := by
  walk_at "wp"
  simp only [hN, cIsName_sh, cIsName_sh2, true_and, if_true]
  refine use_isName (.inl ⟨rfl, rfl, rfl⟩) h1 h2 ⟨rfl, ?_⟩
  walk_at "wp"
  refine use_isName (.inr ⟨rfl, rfl, rfl⟩) h1 h2 ⟨rfl, ?_⟩
  walk_at "wp"
  rw [h3]
  obtain ⟨q1, q2, q3, q4, q5⟩ := sh2_ok due
  refine ⟨by simp [sizeLine], ?_⟩
  show (match (D.lst [.bl due, .bl due]).toPy with | some p => _ | none => False)
  have e : (D.lst [.bl due, .bl due]).toPy = some (.list [.bool due, .bool due]) := rfl
  rw [e]
  refine ⟨q1, q2, q3, q4, by simp [sizeLine], ?_⟩
  refine ⟨q1, q2, q3, q4, eqStr q5 q5 ?_⟩
  rw [beq_self_eq_true]
  exact hK
theorem w_turn {T : Tab} (hT : T.fn "_law_take" = some cTake) (hP : T.fn "_law_pick" = some cPick) (hN : T.fn "is_name" = some cIsName) {sc d : D} {t : Nat} (hd : Dr t d) (ht : t + 100 < LIM) {a b c e f g : Option (D × Ow)} {E : En} (hE : ∀ d' a b c e f g, Dr (t + 100) d' → E.nx (st sc d' a b c e f g)) : wS T p_law_b1 (st sc d a b c e f g) E := by
  unfold p_law_b1
  refine cut fun K1 hK1 => ?_
  walk_at "wp"
  simp only [hP, cPick_sh, true_and]
  refine ⟨by simp [sizeLine], ?_⟩
  refine use_pick rfl hd (by omega) rfl (by simp) (by simp) fun d1 x hd1 hx => ?_
  walk_at "wp"
  have hz : ∃ z : Nat, x = .int z ∧ z ≤ 20 := by
    have hx : x ∈ ([0, 1, 1, 2, 3, 5, 7, 8, 8, 9, 9, 20] : List Nat).map (fun n : Nat => D.int (n : Int)) := hx
    obtain ⟨z, hz, rfl⟩ := List.mem_map.mp hx
    exact ⟨z, rfl, (by decide : ∀ z ∈ ([0, 1, 1, 2, 3, 5, 7, 8, 8, 9, 9, 20] : List Nat), z ≤ 20) z hz⟩
  obtain ⟨z, rfl, hz⟩ := hz
  refine hK1 _ (cut fun K2 hK2 => ?_)
  walk_at "wp"
  refine ⟨by omega, by omega, .sh, ?_⟩
  refine comp_inv0 (fun j acc ρ => ∃ d' cs, Dr (t + 1 + j) d' ∧ acc = cs.map (fun c => D.str ⟨#[c]⟩) ∧ cs.length = j ∧ (∀ c ∈ cs, c ∈ letters.cps.toList) ∧ ρ = st sc d' a (some (.int z, .sh)) c none f g) ⟨d1, [], hd1, rfl, rfl, by simp, rfl⟩ ?_ ?_
  · rintro j x acc ρ hx ⟨d', cs, hd', rfl, hcs, hin, rfl⟩
    have hj : j < z := by
      have := (List.getElem?_eq_some_iff.mp hx).1
      simpa using this
    refine ⟨_, rfl, fun k h1 h2 => ?_⟩
    unfold p_law_e1
    walk_at "wp"
    simp only [hP, cPick_sh, true_and]
    refine use_pick (xs := letters.cps.toList.map fun c => D.str ⟨#[c]⟩) rfl hd' (by omega) (seqD_str (by rw [lens_ok.2]; decide)) (by rw [List.length_map, Array.length_toList]; have := lens_ok.2; unfold Str.length at this; omega) (by rw [List.length_map, Array.length_toList]; have := lens_ok.2; unfold Str.length at this; omega) fun d2 y hd2 hy => ?_
    obtain ⟨c0, hc0, rfl⟩ := List.mem_map.mp hy
    refine ⟨rfl, h1 _ _ _ ⟨?_, .inl rfl, d2, cs ++ [c0], ?_, ?_, ?_, ?_, rfl⟩⟩
    · rw [List.length_map, hcs]; exact Nat.lt_of_lt_of_le hj (Nat.le_trans hz (by decide))
    · exact hd2
    · rw [List.map_append]; rfl
    · rw [List.length_append, hcs]; rfl
    · intro c hc
      rcases List.mem_append.mp hc with q | q
      · exact hin c q
      · rw [List.mem_singleton.mp q]; exact hc0
  · rintro acc ρ ⟨d', cs, hd', rfl, hcs, hin, rfl⟩
    rw [List.length_map, List.length_range] at hcs hd'
    have hcs : cs.length = z := by omega
    simp only [strs_chars]
    refine ⟨by rw [sum_ones, List.length_map]; show _ + _ * 0 ≤ _; omega, ?_⟩
    rw [join_chars]
    refine hK2 _ (cut fun K3 hK3 => ?_)
    -- the last rows, from any item whose answer is due
    have fin : ∀ K : DEnv → Prop, (∀ ρ1, wS T (.seq (.ite (.cmp .ne (.rep (.lst (.cons (.call "is_name" (.cons (.var 7) .nil) .nil (shp 1)) (.cons (.call "is_name" .nil (.cons (.var 7) .nil) ⟨0, ["value"], [0]⟩) .nil)))) (.rep (.lst (.cons (.var 9) (.cons (.var 9) .nil))))) (.seq (.ret (.boo false)) (.skip)) (.skip)) .skip) ρ1 E → K ρ1) →
        ∀ d' it due a b e g, Dr (t + 100) d' → tyn it ≠ "" → (∀ s, it = .str s → s.length ≤ 1000) → isNmD it = due → K (st sc d' a b (some (it, .sh)) e (some (.bl due, .sh)) g) := fun K hK d' it due a b e g hd' h1 h2 h3 => hK _ (by
      refine cut fun K9 hK9 => ?_
      refine w_end hN h1 h2 h3 (hK9 _ ?_)
      walk_at "wp"
      exact hE _ _ _ _ _ _ _ hd')
    have odds : ∀ K : DEnv → Prop, (∀ ρ1, wS T (.seq (.ite (.cmp .eq (.call "_law_take" (.cons (.io 1) (.cons (.num 5) .nil)) .nil (shp 2)) (.num 0)) (p_law_t1) (.skip)) (.seq (.ite (.cmp .ne (.rep (.lst (.cons (.call "is_name" (.cons (.var 7) .nil) .nil (shp 1)) (.cons (.call "is_name" .nil (.cons (.var 7) .nil) ⟨0, ["value"], [0]⟩) .nil)))) (.rep (.lst (.cons (.var 9) (.cons (.var 9) .nil))))) (.seq (.ret (.boo false)) (.skip)) (.skip)) .skip)) ρ1 E → K ρ1) →
        ∀ d' cs due a b e g, Dr (t + 90) d' → cs.length ≤ 100 → isNmD (.str (chars cs)) = due → K (st sc d' a b (some (.str (chars cs), .sh)) e (some (.bl due, .sh)) g) := fun K hK d' cs due a b e g hd' h1 h2 => hK _ (by
      refine cut fun K9 hK9 => ?_
      walk_at "wp"
      simp only [hT, cTake_sh, true_and]
      refine use_take rfl hd' (by omega) (by decide) (by decide) fun d2 j hd2 j0 j1 => ?_
      walk_at "wp"
      refine eqInt ?_
      split
      · unfold p_law_t1
        refine cut fun K8 hK8 => ?_
        walk_at "wp"
        simp only [hP, cPick_sh, true_and]
        refine use_pick rfl hd2 (by omega) rfl (by simp [odd]) (by simp [odd]) fun d3 x hd3 hx => ?_
        obtain ⟨o1, o2, o3⟩ := odd_ok x hx
        simp only [List.cons_append, List.nil_append, List.length_cons, List.length_nil, setAll, List.set_cons_zero, List.set_cons_succ, true_and]
        refine hK8 _ ?_
        walk_at "wp"
        exact fin K9 hK9 d3 x false _ _ _ _ (hd3.mono (by omega)) o1 (fun s hs => absurd hs (o3 s)) o2
      · exact fin K9 hK9 d2 (.str (chars cs)) due _ _ _ _ (hd2.mono (by omega)) (tyn_str _) (fun s hs => by cases hs; rw [chars_len]; omega) h2)
    walk_at "wp"
    rw [chars_len]
    have h10 : cs.length ≤ sizeLine := by rw [hcs]; exact Nat.le_trans hz (by decide)
    refine ⟨h10, ?_⟩
    have go : ∀ b : Bool, b = isNmD (.str (chars cs)) → K3 (st sc d' a (some (.int z, .sh)) (some (.str (chars cs), .sh)) none (some (.bl b, .sh)) g) := fun b hb => hK3 _ (by
      refine cut fun K4 hK4 => ?_
      walk_at "wp"
      simp only [hT, cTake_sh, true_and]
      refine use_take rfl hd' (by omega) (by decide) (by decide) fun d2 j hd2 j0 j1 => ?_
      walk_at "wp"
      refine eqInt ?_
      split
      · unfold p_law_t2
        refine cut fun K5 hK5 => ?_
        walk_at "wp"
        simp only [hT, cTake_sh, true_and]
        rw [chars_len]
        refine ⟨h10, ?_⟩
        refine use_take rfl hd2 (by omega) (by omega) (by omega) fun d3 j2 hd3 j20 j21 => ?_
        walk_at "wp"
        refine hK5 _ (cut fun K6 hK6 => ?_)
        obtain ⟨l1, e1, z1⟩ := @cut_sub cs none (some j2)
        walk_at "wp"
        rw [e1]
        have hz2 : (chars cs).length ≤ sizeLine := by rw [chars_len]; exact h10
        refine ⟨hz2, ?_⟩
        simp only [hP, cPick_sh, true_and]
        have s67 := lens_ok.1
        refine use_pick (xs := signs.cps.toList.map fun c => D.str ⟨#[c]⟩) rfl hd3 (by omega) (seqD_str (by rw [s67]; decide)) (by rw [List.length_map, Array.length_toList]; unfold Str.length at s67; omega) (by rw [List.length_map, Array.length_toList]; unfold Str.length at s67; omega) fun d4 y hd4 hy => ?_
        obtain ⟨c0, hc0, rfl⟩ := List.mem_map.mp hy
        walk_at "wp"
        have h25 : 1000 ≤ sizeLine := by decide
        refine ⟨by rw [chars_len]; show l1.length + 1 ≤ _; omega, ?_⟩
        simp only [hT, cTake_sh, true_and]
        refine use_take rfl hd4 (by omega) (by decide) (by decide) fun d5 j3 hd5 j30 j31 => ?_
        obtain ⟨l2, e2, z2⟩ := @cut_sub cs (some (j2 + j3)) none
        walk_at "wp"
        rw [e2]
        refine ⟨hz2, ?_⟩
        have e3 : chars l1 ++ (⟨#[c0]⟩ : Str) ++ chars l2 = chars (l1 ++ [c0] ++ l2) := by
          rw [show (⟨#[c0]⟩ : Str) = chars [c0] from rfl, chars_app, chars_app]
        refine ⟨by rw [show (⟨#[c0]⟩ : Str) = chars [c0] from rfl, chars_app, chars_len, chars_len]; simp; omega, ?_⟩
        rw [e3]
        refine hK6 _ (cut fun K7 hK7 => ?_)
        walk_at "wp"
        refine hK7 _ ?_
        walk_at "wp"
        exact odds K4 hK4 d5 (l1 ++ [c0] ++ l2) false _ _ _ _ (hd5.mono (by omega)) (by simp; omega) (isNm_bad (c := c0) (by simp) (signs_ok c0 hc0))
      · exact odds K4 hK4 d2 cs b _ _ _ _ (hd2.mono (by omega)) (by omega) hb.symm)
    rw [isNm_good hin] at go
    by_cases q1 : (0 : Int) < cs.length
    · simp only [q1, decide_true, if_true]
      exact go _ (by simp only [q1, decide_true, Bool.true_and])
    · simp only [q1, decide_false, Bool.false_eq_true, if_false]
      exact go _ (by simp only [q1, decide_false, Bool.false_and])
theorem w_law {T : Tab} (hB : T.fn "_law_begun" = some cBegun) (hT : T.fn "_law_take" = some cTake) (hP : T.fn "_law_pick" = some cPick) (hN : T.fn "is_name" = some cIsName) (ds : List D) (hl : ds.length = cLaw.io.length) (hp : cLaw.pre ds) : wS T p_law (env0 11 ds cLaw.io) (enC cLaw ds) := by
  obtain ⟨ns, rfl, hn⟩ := hp
  show wS T p_law [some (.lst (ns.map .int), .sh), none, none, none, none, none, none, none, none, none, none] _
  unfold p_law
  refine cut fun K hK => ?_
  walk_at "wp"
  simp only [hB, cBegun_sh, true_and]
  refine use_callP rfl rfl rfl (ds := [.lst (ns.map .int)]) rfl rfl ⟨ns, rfl, by omega⟩ (fun r ro outs _ h => ?_) fun e outs _ z => z.elim
  obtain ⟨hd, rfl⟩ := h
  simp only [List.set_cons_zero, List.set_cons_succ]
  refine hK _ (cut fun K1 hK1 => ?_)
  walk_at "wp"
  refine hK1 _ (cut fun K2 hK2 => ?_)
  walk_at "wp"
  refine hK2 _ (cut fun K3 hK3 => ?_)
  walk_at "wp"
  refine ⟨by decide, by decide, ?_⟩
  simp only [pairUp, toKey_str, dicD, Option.map_some]
  refine ⟨by simp, by simp, by decide, by decide, by simp, by simp, by decide, ?_⟩
  refine hK3 _ (cut fun K4 hK4 => ?_)
  walk_at "wp"
  have hm : ∀ n : Nat, (if (40 : Int) < n then (40 : Int) else n) = ((min n 40 : Nat) : Int) := fun n => by split <;> omega
  rw [List.length_map, hm]
  refine ⟨by omega, by omega, ?_⟩
  refine for_inv (fun j ρ => ∃ d a b c e f g, Dr (100 * j) d ∧ ρ = st (.lst (ns.map .int)) d a b c e f g) ⟨r, none, none, none, none, none, none, hd, rfl⟩ ?_ ?_
  · rintro j x ρ hx ⟨d, a, b, c, e, f, g, hd, rfl⟩
    have hj : j < 4 + min ns.length 40 := by
      have := (List.getElem?_eq_some_iff.mp hx).1
      rw [List.length_map, List.length_range] at this
      omega
    refine ⟨_, rfl, fun k hk => ?_⟩
    show wS T p_law_b1 (st (.lst (ns.map .int)) d (some (x, .sh)) b c e f g) _
    refine w_turn hT hP hN hd (by unfold LIM; omega) fun d' a b c e f g hd' => hk _ ⟨d', a, b, c, e, f, g, hd', rfl⟩
  · rintro ρ ⟨d, a, b, c, e, f, g, hd, rfl⟩
    refine hK4 _ (cut fun K5 _ => ?_)
    walk_at "wp"
    exact ⟨[.lst (ns.map .int)], by simp [outs0, cLaw], rfl⟩
end DL
set_option Elab.async false
set_option linter.all false
set_option maxRecDepth 100000
set_option maxHeartbeats 0
namespace K02
open PySem PySem.Spec PyProof.Rows L2 DL
abbrev pw : Program := PySem.Challenge.pw_allranks_k02_names_judged
def top (i : Nat) : Stmt := pw.main.body.getD i (.Pass ⟨0, 0, 0, 0⟩)
def dOf (x : Str) (i : Nat) : He.DefD := ⟨(x, none), x, x, defArgs (top i), defBody (top i), defScope (top i), [], []⟩
def fn : List He.DefD := [dOf "is_name" 3, dOf "_law_begun" 5, dOf "_law_blend" 6, dOf "_law_take" 7, dOf "_law_pick" 8, dOf "law" 9]
def fa : List He.Fa := [.str "LETTERS" "abcdefghijklmnopqrstuvwxyz", .int "LONGEST_NAME" 8, .glo "is_name", .glo "_law_begun", .glo "_law_blend", .glo "_law_take", .glo "_law_pick", .glo "law"] ++ biNames.map He.Fa.free
abbrev R : PySem.W.OpenRow := PySem.W.OpenLaw.row PySem.Challenge.rw_allranks_k02_names_judged
abbrev hk : PySem.W.Hook := hookL 5 fa fn
def ob (s : PySem.W.SharedT) : He.AlD := obsL 5 fa fn (HandSHeadRun.getT s)
theorem ob_eq (s : PySem.W.SharedT) : ob s = hk.obs s.abs := obsL_eq (HandSHeadRun.getT_eq s)
def loose : List Str := ["LETTERS", "LONGEST_NAME", "is_name", "_law_begun", "_law_blend", "_law_take", "_law_pick"]
theorem run (w : World) : HandSHeadRun.RunEq R (PySem.W.view R.prog [9]) hk ob 600 loose w := by
  intro os
  kernel_rfl
def L : List (Str × Con) := [("is_name", cIsName), ("_law_begun", cBegun), ("_law_blend", cBlend), ("_law_take", cTake), ("_law_pick", cPick)]
def C : List (Str × D) := [("LETTERS", .str letters), ("LONGEST_NAME", .int 8)]
abbrev T (i : Nat) : Tab := Tn L C i
def N_is_name : List Str := ["value", "letter"]
def N_begun : List Str := ["_law_script", "_law_wide", "_law_cell"]
def N_blend : List Str := ["_law_draw", "_law_found", "_law_prime", "_law_blend_here", "_law_cell"]
def N_take : List Str := ["_law_draw", "_law_size", "_law_found"]
def N_pick : List Str := ["_law_draw", "_law_some"]
def N_law : List Str := ["_law_script", "_law_draw", "_law_letters", "_law_signs", "_law_odd", "_law_turn", "_law_size", "_law_item", "_law_k", "_law_due", "_law_at"]
theorem sc0 : FnScope N_is_name ["value"] (defScope (top 3)) := ⟨rfl, rfl, rfl, by decide +kernel, rfl, by decide +kernel, by decide +kernel⟩
theorem m0 : mSs N_is_name p_is_name (defScope (top 3)) (defBody (top 3)) = true := by decide +kernel
theorem sc1 : FnScope N_begun ["_law_script"] (defScope (top 5)) := ⟨rfl, rfl, rfl, by decide +kernel, rfl, by decide +kernel, by decide +kernel⟩
theorem m1 : mSs N_begun l_begun (defScope (top 5)) (defBody (top 5)) = true := by decide +kernel
theorem sc2 : FnScope N_blend ["_law_draw"] (defScope (top 6)) := ⟨rfl, rfl, rfl, by decide +kernel, rfl, by decide +kernel, by decide +kernel⟩
theorem m2 : mSs N_blend l_blend (defScope (top 6)) (defBody (top 6)) = true := by decide +kernel
theorem sc3 : FnScope N_take ["_law_draw", "_law_size"] (defScope (top 7)) := ⟨rfl, rfl, rfl, by decide +kernel, rfl, by decide +kernel, by decide +kernel⟩
theorem m3 : mSs N_take l_take (defScope (top 7)) (defBody (top 7)) = true := by decide +kernel
theorem sc4 : FnScope N_pick ["_law_draw", "_law_some"] (defScope (top 8)) := ⟨rfl, rfl, rfl, by decide +kernel, rfl, by decide +kernel, by decide +kernel⟩
theorem m4 : mSs N_pick l_pick (defScope (top 8)) (defBody (top 8)) = true := by decide +kernel
theorem sc5 : FnScope N_law ["_law_script"] (defScope (top 9)) := ⟨rfl, rfl, rfl, by decide +kernel, rfl, by decide +kernel, by decide +kernel⟩
theorem m5 : mSs N_law p_law (defScope (top 9)) (defBody (top 9)) = true := by decide +kernel
theorem nosto {m : S} {io : List Ow} (h : (m.sto.all fun j => match io[j]? with | some o => decide (o = .sh) | none => true) = true) : ∀ j ∈ m.sto, ∀ o, io[j]? = some o → o = .sh := fun j hj o e => by
  have := List.all_eq_true.mp h j hj
  rw [e] at this
  exact of_decide_eq_true this
theorem facts {w : World} {K : PySem.W.Frag} {h : Heap} {mg : Str → Option Value} {f : Addr} (X : K.In h) (G : h.Ns mainGlobals mg) (hfa : mg ("law" : Str) = some (.ref f)) (c : He.SaysD fa fn K) :
    ∃ fd : FuncData, (∀ (s : Shared) (v : Value), BindsTo s fd ⟨[v], []⟩ [("_law_script", v)]) ∧ ∀ base : Heap, K.In base → base.Ns mainGlobals mg → FnG pw w K mg base 10 f fd ["_law_script"] (spD (He.ga K) cLaw) := by
  obtain ⟨fd, F⟩ := c.def_ 5 (d := dOf "law" 9) rfl
  have e := hfa.symm.trans (say_glo X G c (x := "law") (List.mem_of_getElem? (i := 7) rfl))
  cases e
  have b := FunD.bindsA (ps := ["_law_script"]) F fun _ _ _ _ _ _ us hl => match us, hl with | [_], _ => rfl
  refine ⟨fd, fun s v => b s [v] rfl, fun base _ _ => ?_⟩
  have B0 : Bd (T 0) (He.ga K) pw w K mg base 4 := Bd.start (fun p hp => by
    simp only [C, List.mem_cons, List.not_mem_nil, or_false] at hp
    rcases hp with rfl | rfl
    · exact say_str X G c (List.mem_of_getElem? (i := 0) rfl)
    · exact say_int X G c (List.mem_of_getElem? (i := 1) rfl)) (say_free X G c fun x hx => List.mem_append_right _ (List.mem_map_of_mem hx))
  have B1 : Bd (T 1) (He.ga K) pw w K mg base 5 := B0.def_ (by decide) (say_glo X G c (List.mem_of_getElem? (i := 2) rfl)) (c.def_ 0 (d := dOf "is_name" 3) rfl) sc0 m0 rfl rfl rfl (nosto (by decide +kernel)) (w_isName rfl rfl) (fun sh hs => by
    simp only [cIsName, List.mem_cons, List.not_mem_nil, or_false] at hs
    rcases hs with rfl | rfl
    · exact fun _ _ _ _ _ _ us ws zs h1 h2 h3 => match us, ws, h1, h2 with | [_], [], _, _ => by cases h3; rfl
    · exact fun _ _ _ _ _ _ us ws zs h1 h2 h3 => match us, ws, h1, h2 with | [], [_], _, _ => by cases h3; rfl)
  have B2 : Bd (T 2) (He.ga K) pw w K mg base 6 := B1.def_ (by decide) (say_glo X G c (List.mem_of_getElem? (i := 3) rfl)) (c.def_ 1 (d := dOf "_law_begun" 5) rfl) sc1 m1 rfl rfl rfl (nosto (by decide +kernel)) (fun ds h1 h2 => w_begun ds h1 h2) (fun sh hs => by
    cases List.mem_singleton.mp hs
    exact fun _ _ _ _ _ _ us ws zs h1 h2 h3 => match us, ws, h1, h2 with | [_], [], _, _ => by cases h3; rfl)
  have B3 : Bd (T 3) (He.ga K) pw w K mg base 7 := B2.def_ (by decide) (say_glo X G c (List.mem_of_getElem? (i := 4) rfl)) (c.def_ 2 (d := dOf "_law_blend" 6) rfl) sc2 m2 rfl rfl rfl (nosto (by decide +kernel)) (fun ds h1 h2 => w_blend ds h1 h2) (fun sh hs => by
    cases List.mem_singleton.mp hs
    exact fun _ _ _ _ _ _ us ws zs h1 h2 h3 => match us, ws, h1, h2 with | [_], [], _, _ => by cases h3; rfl)
  have B4 : Bd (T 4) (He.ga K) pw w K mg base 8 := B3.def_ (by decide) (say_glo X G c (List.mem_of_getElem? (i := 5) rfl)) (c.def_ 3 (d := dOf "_law_take" 7) rfl) sc3 m3 rfl rfl rfl (nosto (by decide +kernel)) (w_take (by kernel_rfl)) (fun sh hs => by
    cases List.mem_singleton.mp hs
    exact fun _ _ _ _ _ _ us ws zs h1 h2 h3 => match us, ws, h1, h2 with | [_, _], [], _, _ => by cases h3; rfl)
  have B5 : Bd (T 5) (He.ga K) pw w K mg base 9 := B4.def_ (by decide) (say_glo X G c (List.mem_of_getElem? (i := 6) rfl)) (c.def_ 4 (d := dOf "_law_pick" 8) rfl) sc4 m4 rfl rfl rfl (nosto (by decide +kernel)) (w_pick (by kernel_rfl)) (fun sh hs => by
    cases List.mem_singleton.mp hs
    exact fun _ _ _ _ _ _ us ws zs h1 h2 h3 => match us, ws, h1, h2 with | [_, _], [], _, _ => by cases h3; rfl)
  exact def_ok B5 (by decide) F sc5 m5 rfl (nosto (by decide +kernel)) (w_law (by kernel_rfl) (by kernel_rfl) (by kernel_rfl) (by kernel_rfl))
theorem lawCon : LawCon 63 cLaw := ⟨rfl, fun ns h _ => ⟨ns, rfl, h⟩, fun _ _ _ _ h => h, fun _ _ _ z => z⟩
end K02
open PySem PySem.W PySem.Calls PyProof.Rows
theorem PySem.Challenge.cw_allranks_k02_names_judged_holds : PySem.Challenge.rw_allranks_k02_names_judged.Holds := by
  w_on; o_law
  refine HandSHeadRun.head_any (r := OpenLaw.row PySem.Challenge.rw_allranks_k02_names_judged) (q := view (OpenLaw.row PySem.Challenge.rw_allranks_k02_names_judged).prog [9]) (H := K02.hk) (ob := K02.ob) (M := 600) (loose := K02.loose) (d := HandSHeadRun.topDef (OpenLaw.row PySem.Challenge.rw_allranks_k02_names_judged).prog 9) (kwd := []) K02.ob_eq
    (by kernel_rfl) (fun s => by kernel_rfl) K02.run (by kernel_rfl) (by kernel_rfl) (by kernel_rfl) (by rfl) (by first | assumption | decide +kernel) (by decide +kernel) ⟨rfl, rfl, rfl, rfl, rfl, by decide +kernel⟩ ?hw ?hc
  case hw => w_witness2
  case hc =>
    refine DL.walk_D (l := PySem.Challenge.rw_allranks_k02_names_judged) (n := 63) (k := 10) (x := "_law_script") rfl (by decide) (by kernel_rfl) ⟨rfl, by decide, by decide⟩ ?F
    intro w mg fa h Y G hmg0
    obtain ⟨K, KX, nol, c⟩ := Y
    have hmg : mg ("law" : PySem.Str) = some (.ref fa) := by
      have e : (HandSHeadRun.topDef (OpenLaw.row PySem.Challenge.rw_allranks_k02_names_judged).prog 9).name = ("law" : PySem.Str) := by kernel_rfl
      rw [← e]
      exact hmg0
    obtain ⟨fd, hb, hF⟩ := K02.facts (w := w) KX G hmg c
    exact ⟨K, fd, He.ga K, DL.cLaw, KX, nol, hb, K02.lawCon, hF⟩
