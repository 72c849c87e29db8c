import PyProof.Rows.All
import HandS.ForMost
import HandS.Exc
import HandS.Deep
import HandS.IsInst
import HandS.TupAny
import HandS.Style
import HandS.Conv
import KE.SortData
import PyProof.StrOps2
import PyProof.StrBlock2
import PyProof.Rows.SortWalk
import HandS.Zip
import HandS.Defaults
import HandS.WordsExc
import HandS.SortKw
import HandS.FromBytesMap
import KE.KMinKey
import PySem.Challenge.RW_doorrules_k22_whole_algebra_of_prefixes
import HandS.Head0
import HandS.Head1
import HandS.Head2
import HandS.HeadEnd
import HandS.HeadHook1
import HandS.HeadHook2
import Wide.All
import OpenK.AllK
import Wide.FinOn
import KE.KStateDown
import HandS.Base
import HandS.Call
import HandS.Ends
import HandS.More
import HandS.Words
/-! text E1 -/
set_option Elab.async false
set_option linter.all false
set_option maxRecDepth 100000
set_option maxHeartbeats 1000000
namespace DL
open PySem PySem.Spec PyProof.Rows L2

abbrev Dat := PyData
/-- addresses that no plain data may hold -/
abbrev AS := Addr → Prop

/-! ### plain data at values -/
/-- a list (tuple) that is read, and that nobody changes -/
def PL (H : Hp) (W : AS) (a : Addr) (xs : List V) : Prop := ¬ W a ∧ H a = some (.lst xs)
def PT' (K : PySem.W.Frag) (H : Hp) (W : AS) (a : Addr) (xs : List V) : Prop :=
  (¬ W a ∧ Rd H a (.tup xs)) ∨ ∃ (o : Obj) (its : Array Value) (n : Nat), K.lookup a = some o ∧ o.cls = .type "tuple" ∧ o.data = .seq its n ∧ its.size ≤ sizeLine ∧ Vals xs its.toList
theorem PL.sq {K : PySem.W.Frag} {H : Hp} {W : AS} {a : Addr} {xs : List V} (h : PL H W a xs) : SqL K H a xs := SqL.of h.2
theorem PT'.sq {K : PySem.W.Frag} {H : Hp} {W : AS} {a : Addr} {xs : List V} (h : PT' K H W a xs) : SqT K H a xs := h.elim (fun h => .inl h.2) .inr

def SqKL (K : PySem.W.Frag) (a : Addr) (xs : List V) : Prop := ∃ (o : Obj) (its : Array Value) (n : Nat), K.lookup a = some o ∧ o.cls = .type "list" ∧ o.dict = none ∧ o.data = .seq its n ∧ its.size ≤ sizeLine ∧ Vals xs its.toList
mutual
inductive Rp (K : PySem.W.Frag) (H : Hp) (W : AS) : V → Dat → Prop
  | non : Rp K H W .non .none
  | bl (b : Bool) : Rp K H W (.bl b) (.bool b)
  | int (i : Int) : Rp K H W (.int i) (.int i)
  | str (x : Str) : Rp K H W (.str x) (.str x)
  | scr {a : Addr} {o : Obj} {xs : List V} {ds : List Dat} : ¬ W a → H a = some (.frz o (.lst xs)) → RpAll K H W xs ds → Rp K H W (.ref a) (.dict [(.none, .list ds)])
  | skl {a : Addr} {xs : List V} {ds : List Dat} : SqKL K a xs → RpAll K H W xs ds → Rp K H W (.ref a) (.dict [(.none, .list ds)])
  | lst {a : Addr} {xs : List V} {ds : List Dat} : PL H W a xs → RpAll K H W xs ds → Rp K H W (.ref a) (.list ds)
  | tup {a : Addr} {xs : List V} {ds : List Dat} : PT' K H W a xs → RpAll K H W xs ds → Rp K H W (.ref a) (.tuple ds)
inductive RpAll (K : PySem.W.Frag) (H : Hp) (W : AS) : List V → List Dat → Prop
  | nil : RpAll K H W [] []
  | cons {v : V} {vs : List V} {d : Dat} {ds : List Dat} : Rp K H W v d → RpAll K H W vs ds → RpAll K H W (v :: vs) (d :: ds)
end

/-- a step of the heap: what is not in O stays; what is avoided grows by new addresses alone -/
structure Kp (O : AS) (H H' : Hp) : Prop where
  keep : ∀ a u, ¬ O a → H a = some u → H' a = some u
theorem rd_kp {O : AS} {H H' : Hp} {a : Addr} {u : HO} (k : Kp O H H') (n : ¬ O a) (h : Rd H a u) : Rd H' a u := by
  rcases h with h | ⟨o, h⟩
  · exact .inl (k.keep _ _ n h)
  · exact .inr ⟨o, k.keep _ _ n h⟩
theorem rd_dom {H : Hp} {a : Addr} {u : HO} (h : Rd H a u) : H a ≠ none := by
  rcases h with h | ⟨o, h⟩ <;> rw [h] <;> simp
theorem PL.mono {O W W' : AS} {H H' : Hp} {a : Addr} {xs : List V} (k : Kp O H H') (hO : ∀ a, O a → W a) (hW : ∀ a, W' a → W a ∨ H a = none) (h : PL H W a xs) : PL H' W' a xs :=
  ⟨fun z => (hW _ z).elim h.1 (fun q => by rw [h.2] at q; cases q), k.keep _ _ (fun z => h.1 (hO _ z)) h.2⟩
theorem PT'.mono {K : PySem.W.Frag} {O W W' : AS} {H H' : Hp} {a : Addr} {xs : List V} (k : Kp O H H') (hO : ∀ a, O a → W a) (hW : ∀ a, W' a → W a ∨ H a = none) (h : PT' K H W a xs) : PT' K H' W' a xs := by
  rcases h with ⟨n, h⟩ | h
  · refine .inl ⟨fun z => ?_, rd_kp k (fun z => n (hO _ z)) h⟩
    rcases hW _ z with z | z
    · exact n z
    · exact rd_dom h z
  · exact .inr h
mutual
theorem Rp.mono {K : PySem.W.Frag} {O W W' : AS} {H H' : Hp} (k : Kp O H H') (hO : ∀ a, O a → W a) (hW : ∀ a, W' a → W a ∨ H a = none) : ∀ {v : V} {d : Dat}, Rp K H W v d → Rp K H' W' v d
  | _, _, .non => .non
  | _, _, .bl b => .bl b
  | _, _, .int b => .int b
  | _, _, .str b => .str b
  | _, _, .scr n h r => .scr (fun z => (hW _ z).elim n fun q => by rw [h] at q; cases q) (k.keep _ _ (fun z => n (hO _ z)) h) (RpAll.mono k hO hW r)
  | _, _, .skl h r => .skl h (RpAll.mono k hO hW r)
  | _, _, .lst h r => .lst (h.mono k hO hW) (RpAll.mono k hO hW r)
  | _, _, .tup h r => .tup (h.mono k hO hW) (RpAll.mono k hO hW r)
theorem RpAll.mono {K : PySem.W.Frag} {O W W' : AS} {H H' : Hp} (k : Kp O H H') (hO : ∀ a, O a → W a) (hW : ∀ a, W' a → W a ∨ H a = none) : ∀ {v : List V} {d : List Dat}, RpAll K H W v d → RpAll K H' W' v d
  | _, _, .nil => .nil
  | _, _, .cons h r => .cons (Rp.mono k hO hW h) (RpAll.mono k hO hW r)
end
mutual
theorem Rp.dp {K : PySem.W.Frag} {W : AS} {H : Hp} : ∀ {v : V} {d : Dat}, Rp K H W v d → d.canLay0 = true → Dp K H v d
  | _, _, .non, _ => .non
  | _, _, .bl b, _ => .bl b
  | _, _, .int b, _ => .int b
  | _, _, .str b, _ => .str b
  | _, _, .scr _ _ _, h => by simp [PyData.canLay0] at h
  | _, _, .skl _ _, h => by simp [PyData.canLay0] at h
  | _, _, .lst h r, c => .lst h.sq (RpAll.dp r (by simpa [PyData.canLay0] using c))
  | _, _, .tup h r, c => .tup h.sq (RpAll.dp r (by simpa [PyData.canLay0] using c))
theorem RpAll.dp {K : PySem.W.Frag} {W : AS} {H : Hp} : ∀ {v : List V} {d : List Dat}, RpAll K H W v d → PyData.canLayAll0 d = true → DpAll K H v d
  | _, _, .nil, _ => .nil
  | _, _, .cons h r, c => by
    have c' := Bool.and_eq_true_iff.mp (by simpa [PyData.canLayAll0] using c)
    exact .cons (Rp.dp h c'.1) (RpAll.dp r c'.2)
end
theorem Kp.refl (O : AS) (H : Hp) : Kp O H H := ⟨fun _ _ _ h => h⟩
theorem RpAll.length {K : PySem.W.Frag} {W : AS} {H : Hp} : ∀ {vs : List V} {ds : List Dat}, RpAll K H W vs ds → vs.length = ds.length
  | _, _, .nil => rfl
  | _, _, .cons _ r => congrArg (· + 1) (RpAll.length r)
theorem RpAll.get {K : PySem.W.Frag} {W : AS} {H : Hp} : ∀ {vs : List V} {ds : List Dat} {i : Nat} {d : Dat}, RpAll K H W vs ds → ds[i]? = some d → ∃ v, vs[i]? = some v ∧ Rp K H W v d
  | _, _, _, _, .nil, e => by simp at e
  | _, _, 0, _, .cons h _, e => by simp at e; subst e; exact ⟨_, rfl, h⟩
  | _, _, i + 1, d, .cons _ r, e => by
    obtain ⟨v, h1, h2⟩ := RpAll.get (i := i) (d := d) r (by simpa using e)
    exact ⟨v, by simpa using h1, h2⟩
theorem RpAll.get' {K : PySem.W.Frag} {W : AS} {H : Hp} : ∀ {vs : List V} {ds : List Dat} {i : Nat} {v : V}, RpAll K H W vs ds → vs[i]? = some v → ∃ d, ds[i]? = some d ∧ Rp K H W v d
  | _, _, _, _, .nil, e => by simp at e
  | _, _, 0, _, .cons h _, e => by simp at e; subst e; exact ⟨_, rfl, h⟩
  | _, _, i + 1, v, .cons _ r, e => by
    obtain ⟨d, h1, h2⟩ := RpAll.get' (i := i) (v := v) r (by simpa using e)
    exact ⟨d, by simpa using h1, h2⟩
theorem RpAll.append {K : PySem.W.Frag} {W : AS} {H : Hp} : ∀ {vs ws : List V} {ds es : List Dat}, RpAll K H W vs ds → RpAll K H W ws es → RpAll K H W (vs ++ ws) (ds ++ es)
  | _, _, _, _, .nil, s => s
  | _, _, _, _, .cons h r, s => .cons h (RpAll.append r s)
theorem RpAll.take {K : PySem.W.Frag} {W : AS} {H : Hp} : ∀ {vs : List V} {ds : List Dat} (n : Nat), RpAll K H W vs ds → RpAll K H W (vs.take n) (ds.take n)
  | _, _, 0, _ => .nil
  | _, _, _ + 1, .nil => .nil
  | _, _, n + 1, .cons h r => .cons h (RpAll.take n r)
theorem RpAll.drop {K : PySem.W.Frag} {W : AS} {H : Hp} : ∀ {vs : List V} {ds : List Dat} (n : Nat), RpAll K H W vs ds → RpAll K H W (vs.drop n) (ds.drop n)
  | _, _, 0, r => r
  | _, _, _ + 1, .nil => .nil
  | _, _, n + 1, .cons h r => RpAll.drop n r
theorem RpAll.set {K : PySem.W.Frag} {W : AS} {H : Hp} {v : V} {d : Dat} (h : Rp K H W v d) : ∀ {vs : List V} {ds : List Dat} (n : Nat), RpAll K H W vs ds → RpAll K H W (vs.set n v) (ds.set n d)
  | _, _, _, .nil => .nil
  | _, _, 0, .cons _ r => .cons h r
  | _, _, n + 1, .cons h' r => .cons h' (RpAll.set h n r)
theorem RpAll.eraseIdx {K : PySem.W.Frag} {W : AS} {H : Hp} : ∀ {vs : List V} {ds : List Dat} (n : Nat), RpAll K H W vs ds → RpAll K H W (vs.eraseIdx n) (ds.eraseIdx n)
  | _, _, _, .nil => .nil
  | _, _, 0, .cons _ r => r
  | _, _, n + 1, .cons h' r => .cons h' (RpAll.eraseIdx n r)
theorem RpAll.reverse {K : PySem.W.Frag} {W : AS} {H : Hp} : ∀ {vs : List V} {ds : List Dat}, RpAll K H W vs ds → RpAll K H W vs.reverse ds.reverse
  | _, _, .nil => .nil
  | _, _, .cons h r => by
    rw [List.reverse_cons, List.reverse_cons]
    exact (RpAll.reverse r).append (.cons h .nil)
theorem RpAll.dropLast {K : PySem.W.Frag} {W : AS} {H : Hp} {vs : List V} {ds : List Dat} (r : RpAll K H W vs ds) : RpAll K H W vs.dropLast ds.dropLast := by
  rw [List.dropLast_eq_take, List.dropLast_eq_take, r.length]
  exact r.take _
theorem RpAll.ints {K : PySem.W.Frag} {W : AS} {H : Hp} : ∀ {vs : List V} {ns : List Int}, RpAll K H W vs (ns.map .int) → vs = ns.map V.int
  | _, [], h => by cases h; rfl
  | _, n :: ns, h => by
    rw [List.map_cons] at h
    cases h with
    | cons h1 h2 => cases h1; rw [RpAll.ints h2]; rfl
theorem RpAll.bls {K : PySem.W.Frag} {W : AS} {H : Hp} : ∀ {vs : List V} {ns : List Bool}, RpAll K H W vs (ns.map .bool) → vs = ns.map V.bl
  | _, [], h => by cases h; rfl
  | _, n :: ns, h => by
    rw [List.map_cons] at h
    cases h with
    | cons h1 h2 => cases h1; rw [RpAll.bls h2]; rfl
theorem RpAll.strs {K : PySem.W.Frag} {W : AS} {H : Hp} : ∀ {vs : List V} {ns : List Str}, RpAll K H W vs (ns.map .str) → vs = ns.map V.str
  | _, [], h => by cases h; rfl
  | _, n :: ns, h => by
    rw [List.map_cons] at h
    cases h with
    | cons h1 h2 => cases h1; rw [RpAll.strs h2]; rfl

/-! ### objects of one's own -/
def kDat : Key → Dat
  | .inl i => .int i
  | .inr x => .str x
inductive OD where
  | lst (ds : List Dat)
  | dct (kvs : List (Key × Dat))
def ObjR (K : PySem.W.Frag) (H : Hp) (W : AS) (a : Addr) : OD → Prop
  | .lst ds => ∃ xs, H a = some (.lst xs) ∧ RpAll K H W xs ds
  | .dct kvs => ∃ ps : List (Key × V), H a = some (.dK ps) ∧ ps.map (·.1) = kvs.map (·.1) ∧ RpAll K H W (ps.map (·.2)) (kvs.map (·.2))
theorem ObjR.mono {K : PySem.W.Frag} {O W W' : AS} {H H' : Hp} {a : Addr} {o : OD} (k : Kp O H H') (hO : ∀ a, O a → W a) (hW : ∀ a, W' a → W a ∨ H a = none) (n : ¬ O a) (h : ObjR K H W a o) : ObjR K H' W' a o := by
  cases o with
  | lst ds => obtain ⟨xs, h1, h2⟩ := h; exact ⟨xs, k.keep _ _ n h1, h2.mono k hO hW⟩
  | dct kvs => obtain ⟨xs, h1, h2, h3⟩ := h; exact ⟨xs, k.keep _ _ n h1, h2, h3.mono k hO hW⟩
theorem ObjR.dom {K : PySem.W.Frag} {W : AS} {H : Hp} {a : Addr} {o : OD} (h : ObjR K H W a o) : H a ≠ none := by
  cases o with
  | lst ds => obtain ⟨xs, h1, h2⟩ := h; rw [h1]; simp
  | dct kvs => obtain ⟨xs, h1, h2⟩ := h; rw [h1]; simp
theorem ObjR.sub {K : PySem.W.Frag} {W W' : AS} {H : Hp} {a : Addr} {o : OD} (hW : ∀ a, W' a → W a ∨ H a = none) (h : ObjR K H W a o) : ObjR K H W' a o :=
  h.mono (O := fun _ => False) (Kp.refl _ _) (fun _ z => z.elim) hW fun z => z
theorem Rp.sub {K : PySem.W.Frag} {W W' : AS} {H : Hp} {v : V} {d : Dat} (hW : ∀ a, W' a → W a ∨ H a = none) (h : Rp K H W v d) : Rp K H W' v d :=
  h.mono (O := fun _ => False) (Kp.refl _ _) (fun _ z => z.elim) hW

/-! ### slots, environments -/
inductive Slot where
  | un
  | val (d : Dat)
  | own (tag : Nat) (o : OD)
abbrev En := List Slot
abbrev Sg := L2.St
def Own (σ : Sg) (ρ : En) (a : Addr) : Prop := ∃ (i t : Nat) (o : OD), ρ[i]? = some (Slot.own t o) ∧ σ[i]? = some (some (V.ref a))
def OwnL (σ : Sg) (ρ : En) (a : Addr) : Prop := ∃ (i : Nat) (o : OD), ρ[i]? = some (Slot.own 0 o) ∧ σ[i]? = some (some (V.ref a))
theorem OwnL.own {σ : Sg} {ρ : En} {a : Addr} (h : OwnL σ ρ a) : Own σ ρ a := let ⟨i, o, h1, h2⟩ := h; ⟨i, 0, o, h1, h2⟩
structure EnvR (K : PySem.W.Frag) (rf : List Addr) (σ : Sg) (H : Hp) (W : AS) (ρ : En) : Prop where
  len : ρ.length = σ.length
  dom : ∀ a, W a → H a ≠ none
  rfd : ∀ a, a ∈ rf → H a ≠ none
  val : ∀ (i : Nat) d, ρ[i]? = some (.val d) → ∃ v, σ[i]? = some (some v) ∧ Rp K H W v d
  own : ∀ (i : Nat) t o, ρ[i]? = some (.own t o) → ∃ a, σ[i]? = some (some (.ref a)) ∧ W a ∧ ObjR K H W a o ∧ (∀ j, t = j + 1 → rf[j]? = some a) ∧ (t = 0 → a ∉ rf)
  inj : ∀ (i j : Nat) t u o q a, ρ[i]? = some (.own t o) → ρ[j]? = some (.own u q) → σ[i]? = some (some (.ref a)) → σ[j]? = some (some (.ref a)) → i = j
section
variable {K : PySem.W.Frag} {rf : List Addr} {σ σ' σ1 σ2 : Sg} {H H' H1 H2 H0 : Hp} {W W' W1 W2 : AS} {ρ ρ' ρ1 ρ2 : En} {a : Addr} {v : V}
theorem EnvR.ownW (E : EnvR K rf σ H W ρ) (h : Own σ ρ a) : W a := by
  obtain ⟨i, t, o, h1, h2⟩ := h
  obtain ⟨b, e, w, _⟩ := E.own i t o h1
  rw [h2] at e; cases e; exact w
theorem EnvR.ownD (E : EnvR K rf σ H W ρ) (h : Own σ ρ a) : H a ≠ none := E.dom a (E.ownW h)
/-- the heap has grown, more is avoided -/
theorem EnvR.same (E : EnvR K rf σ H W ρ) (k : Same H H') (g : ∀ a, W' a → W a ∨ H a = none) (s : ∀ a, W a → W' a) (d : ∀ a, W' a → H' a ≠ none) : EnvR K rf σ H' W' ρ := by
  have kp : L2.Same H H' → Kp (fun _ => False) H H' := fun k => ⟨fun a u _ e => k a u e⟩
  have dd : ∀ a, H a ≠ none → H' a ≠ none := fun a h => by
    cases e : H a with
    | none => exact absurd e h
    | some u => rw [k a u e]; simp
  refine ⟨E.len, d, fun a h => dd a (E.rfd a h), fun i d h => ?_, fun i t o h => ?_, E.inj⟩
  · obtain ⟨v, e, r⟩ := E.val i d h
    exact ⟨v, e, r.mono (kp k) (fun _ z => z.elim) g⟩
  · obtain ⟨a, e, w, r, t1, t2⟩ := E.own i t o h
    exact ⟨a, e, s a w, r.mono (kp k) (fun _ z => z.elim) g (fun z => z), t1, t2⟩

/-- from one state to a later one -/
structure Go (K : PySem.W.Frag) (rf : List Addr) (σ : Sg) (H : Hp) (W : AS) (ρ : En) (σ' : Sg) (H' : Hp) (W' : AS) (ρ' : En) : Prop where
  env : EnvR K rf σ' H' W' ρ'
  kp : Kp (Own σ ρ) H H'
  dom : ∀ a, H a ≠ none → H' a ≠ none
  grow : ∀ a, W' a → W a ∨ H a = none
  lose : ∀ a, W a → W' a ∨ OwnL σ ρ a
  osub : ∀ a, Own σ' ρ' a → Own σ ρ a ∨ H a = none
  osubL : ∀ a, OwnL σ' ρ' a → OwnL σ ρ a ∨ H a = none
theorem Go.refl (E : EnvR K rf σ H W ρ) : Go K rf σ H W ρ σ H W ρ :=
  ⟨E, Kp.refl _ _, fun _ h => h, fun _ h => .inl h, fun _ h => .inl h, fun _ h => .inl h, fun _ h => .inl h⟩
theorem Go.fresh (a : Go K rf σ H W ρ σ1 H1 W1 ρ1) {x : Addr} (h : H1 x = none) : H x = none := by
  cases e : H x with
  | none => rfl
  | some u => exact absurd h (a.dom x (by rw [e]; simp))
theorem Go.trans (E : EnvR K rf σ H W ρ) (a : Go K rf σ H W ρ σ1 H1 W1 ρ1) (b : Go K rf σ1 H1 W1 ρ1 σ2 H2 W2 ρ2) : Go K rf σ H W ρ σ2 H2 W2 ρ2 := by
  refine ⟨b.env, ⟨fun x u n e => b.kp.keep x u (fun z => ?_) (a.kp.keep x u n e)⟩, fun x h => b.dom x (a.dom x h), fun x h => ?_, fun x h => ?_, fun x h => ?_, fun x h => ?_⟩
  · rcases a.osub x z with z | z
    · exact n z
    · rw [e] at z; cases z
  · rcases b.grow x h with h | h
    · exact a.grow x h
    · exact .inr (a.fresh h)
  · rcases a.lose x h with h1 | h1
    · rcases b.lose x h1 with h2 | h2
      · exact .inl h2
      · rcases a.osubL x h2 with z | z
        · exact .inr z
        · exact absurd z (E.dom x h)
    · exact .inr h1
  · rcases b.osub x h with h | h
    · exact a.osub x h
    · exact .inr (a.fresh h)
  · rcases b.osubL x h with h | h
    · exact a.osubL x h
    · exact .inr (a.fresh h)

/-! ### values of expressions -/
inductive Vl where
  | dat (d : Dat)
  | loc (i : Nat)
  | new (o : OD)
/-- H0: the heap ahead of the expression -/
def VlR (K : PySem.W.Frag) (rf : List Addr) (H0 : Hp) (σ : Sg) (H : Hp) (W : AS) (ρ : En) (v : V) : Vl → Prop
  | .dat d => Rp K H W v d
  | .loc i => σ[i]? = some (some v)
  | .new o => ∃ a, v = .ref a ∧ W a ∧ ObjR K H W a o ∧ ¬ Own σ ρ a ∧ a ∉ rf ∧ H0 a = none
theorem VlR.go {x : Vl} (E : EnvR K rf σ H W ρ) (r : VlR K rf H0 σ H W ρ v x) (g : Go K rf σ H W ρ σ H' W' ρ') : VlR K rf H0 σ H' W' ρ' v x := by
  cases x with
  | dat d => exact Rp.mono g.kp (fun _ z => E.ownW z) g.grow r
  | loc i => exact r
  | new o =>
    obtain ⟨a, e, w, ob, n, nr, f⟩ := r
    refine ⟨a, e, ?_, ob.mono g.kp (fun _ z => E.ownW z) g.grow n, fun z => ?_, nr, f⟩
    · rcases g.lose a w with z | z
      · exact z
      · exact absurd z.own n
    · rcases g.osub a z with z | z
      · exact n z
      · exact E.dom a w z
theorem VlR.early {x : Vl} (r : VlR K rf H1 σ H W ρ v x) (g : ∀ a, H1 a = none → H0 a = none) : VlR K rf H0 σ H W ρ v x := by
  cases x with
  | dat d => exact r
  | loc i => exact r
  | new o =>
    obtain ⟨a, e, w, ob, n, nr, f⟩ := r
    exact ⟨a, e, w, ob, n, nr, g a f⟩
/-- what is read there -/
def rd (ρ : En) : Vl → Option Dat
  | .dat d => some d
  | .new (.lst ds) => some (.list ds)
  | .loc i => match ρ[i]? with
    | some (.val d) => some d
    | some (.own _ (.lst ds)) => some (.list ds)
    | _ => none
  | _ => none
/-- a value that is read now -/
inductive Rr (K : PySem.W.Frag) (H : Hp) (W : AS) : V → Dat → Prop
  | plain {v : V} {d : Dat} : Rp K H W v d → Rr K H W v d
  | lst {a : Addr} {xs : List V} {ds : List Dat} : H a = some (.lst xs) → RpAll K H W xs ds → Rr K H W (.ref a) (.list ds)
theorem Rr.dp {d : Dat} (r : Rr K H W v d) (c : d.canLay0 = true) : Dp K H v d := by
  cases r with
  | plain r => exact r.dp c
  | lst h r => exact .lst (SqL.of h) (r.dp (by simpa [PyData.canLay0] using c))
theorem Rr.list {ds : List Dat} (r : Rr K H W v (.list ds)) : ∃ a xs, v = .ref a ∧ H a = some (.lst xs) ∧ RpAll K H W xs ds := by
  cases r with
  | plain r => cases r with | lst h r => exact ⟨_, _, rfl, h.2, r⟩
  | lst h r => exact ⟨_, _, rfl, h, r⟩
theorem Rr.scr {ds : List Dat} (r : Rr K H W v (.dict [(.none, .list ds)])) : ∃ a xs, v = .ref a ∧ L2.SqL K H a xs ∧ RpAll K H W xs ds := by
  cases r with
  | plain r => cases r with
    | scr n h r => exact ⟨_, _, rfl, .inl (.inr ⟨_, h⟩), r⟩
    | skl h r => exact ⟨_, _, rfl, .inr h, r⟩
theorem Rr.tuple {ds : List Dat} (r : Rr K H W v (.tuple ds)) : ∃ a xs, v = .ref a ∧ SqT K H a xs ∧ RpAll K H W xs ds := by
  cases r with
  | plain r => cases r with | tup h r => exact ⟨_, _, rfl, h.sq, r⟩
theorem Rr.int {i : Int} (r : Rr K H W v (.int i)) : v = .int i := by
  cases r with
  | plain r => cases r; rfl
theorem Rr.bl {i : Bool} (r : Rr K H W v (.bool i)) : v = .bl i := by
  cases r with
  | plain r => cases r; rfl
theorem Rr.str {i : Str} (r : Rr K H W v (.str i)) : v = .str i := by
  cases r with
  | plain r => cases r; rfl
theorem Rr.non (r : Rr K H W v .none) : v = .non := by
  cases r with
  | plain r => cases r; rfl
theorem VlR.rd {x : Vl} {d : Dat} (E : EnvR K rf σ H W ρ) (r : VlR K rf H0 σ H W ρ v x) (h : DL.rd ρ x = some d) : Rr K H W v d := by
  cases x with
  | dat e => cases h; exact .plain r
  | loc i =>
    have r : σ[i]? = some (some v) := r
    simp only [DL.rd] at h
    split at h
    · rename_i d' e
      cases h
      obtain ⟨v', e1, r1⟩ := E.val i _ e
      rw [r] at e1; cases e1
      exact .plain r1
    · rename_i t ds e
      cases h
      obtain ⟨a, e1, w, ⟨xs, o1, o2⟩, _⟩ := E.own i _ _ e
      rw [r] at e1; cases e1
      exact .lst o1 o2
    · cases h
  | new o =>
    cases o with
    | lst ds =>
      cases h
      obtain ⟨a, rfl, w, ⟨xs, o1, o2⟩, _⟩ := r
      exact .lst o1 o2
    | dct kvs => cases h
/-- what is given away -/
def mv (ρ : En) : Vl → Option (Dat × En)
  | .dat d => some (d, ρ)
  | .new (.lst ds) => some (.list ds, ρ)
  | .loc i => match ρ[i]? with
    | some (.val d) => some (d, ρ)
    | some (.own 0 (.lst ds)) => some (.list ds, ρ.set i (.val (.list ds)))
    | _ => none
  | _ => none
def mvs (ρ : En) : List Vl → Option (List Dat × En)
  | [] => some ([], ρ)
  | x :: xs => match mv ρ x with
    | some (d, ρ1) => match mvs ρ1 xs with
      | some (ds, ρ2) => some (d :: ds, ρ2)
      | none => none
    | none => none
/-- as VlR, but for what is avoided -/
def VlW (K : PySem.W.Frag) (rf : List Addr) (H0 : Hp) (σ : Sg) (H : Hp) (W : AS) (ρ : En) (v : V) : Vl → Prop
  | .dat d => Rp K H W v d
  | .loc i => σ[i]? = some (some v)
  | .new o => ∃ a, v = .ref a ∧ ObjR K H W a o ∧ ¬ Own σ ρ a ∧ a ∉ rf ∧ H0 a = none
theorem VlR.w {x : Vl} (r : VlR K rf H0 σ H W ρ v x) : VlW K rf H0 σ H W ρ v x := by
  cases x with
  | dat d => exact r
  | loc i => exact r
  | new o => obtain ⟨a, e, w, ob, n, nr, f⟩ := r; exact ⟨a, e, ob, n, nr, f⟩
/-- less is avoided -/
theorem EnvR.less (E : EnvR K rf σ H W ρ) (s : ∀ a, W' a → W a) (o : ∀ a, Own σ ρ a → W' a) : EnvR K rf σ H W' ρ := by
  have g : ∀ a, W' a → W a ∨ H a = none := fun a h => .inl (s a h)
  refine ⟨E.len, fun a h => E.dom a (s a h), E.rfd, fun i d h => ?_, fun i t q h => ?_, E.inj⟩
  · obtain ⟨v, e, r⟩ := E.val i d h
    exact ⟨v, e, r.sub g⟩
  · obtain ⟨a, e, w, r, t1, t2⟩ := E.own i t q h
    exact ⟨a, e, o a ⟨i, t, q, h, e⟩, r.sub g, t1, t2⟩
/-- a local list given away: its slot holds it as plain data now -/
theorem EnvR.freeze {i : Nat} {ds : List Dat} (E : EnvR K rf σ H W ρ) (hi : ρ[i]? = some (.own 0 (.lst ds))) (ha : σ[i]? = some (some (.ref a))) :
    EnvR K rf σ H (fun b => W b ∧ b ≠ a) (ρ.set i (.val (.list ds))) ∧ Rp K H (fun b => W b ∧ b ≠ a) (.ref a) (.list ds) := by
  have g : ∀ b, (W b ∧ b ≠ a) → W b ∨ H b = none := fun b h => .inl h.1
  obtain ⟨a', e, w, ⟨xs, o1, o2⟩, _, _⟩ := E.own i _ _ hi
  rw [ha] at e; cases e
  have hlt : i < ρ.length := (List.getElem?_eq_some_iff.mp hi).1
  have rp : Rp K H (fun b => W b ∧ b ≠ a) (.ref a) (.list ds) := .lst ⟨fun z => z.2 rfl, o1⟩ (o2.mono (O := fun _ => False) (Kp.refl _ _) (fun _ z => z.elim) g)
  refine ⟨⟨by rw [List.length_set]; exact E.len, fun b h => E.dom b h.1, E.rfd, fun j d h => ?_, fun j t q h => ?_, fun j l t u o q b h1 h2 => ?_⟩, rp⟩
  · by_cases hj : j = i
    · subst hj
      rw [List.getElem?_set_self hlt] at h
      cases h
      exact ⟨_, ha, rp⟩
    · rw [List.getElem?_set_ne (Ne.symm hj)] at h
      obtain ⟨v, e, r⟩ := E.val j d h
      exact ⟨v, e, r.sub g⟩
  · by_cases hj : j = i
    · subst hj; rw [List.getElem?_set_self hlt] at h; cases h
    · rw [List.getElem?_set_ne (Ne.symm hj)] at h
      obtain ⟨b, e, w', r, t1, t2⟩ := E.own j t q h
      refine ⟨b, e, ⟨w', fun z => ?_⟩, r.sub g, t1, t2⟩
      subst z
      exact hj (E.inj j i _ _ _ _ _ h hi e ha)
  · by_cases hj : j = i
    · subst hj; rw [List.getElem?_set_self hlt] at h1; cases h1
    · by_cases hl : l = i
      · subst hl; rw [List.getElem?_set_self hlt] at h2; cases h2
      · rw [List.getElem?_set_ne (Ne.symm hj)] at h1
        rw [List.getElem?_set_ne (Ne.symm hl)] at h2
        exact E.inj j l _ _ _ _ _ h1 h2
theorem own_set {i : Nat} {d : Dat} (h : Own σ (ρ.set i (.val d)) a) : Own σ ρ a := by
  obtain ⟨j, t, o, h1, h2⟩ := h
  by_cases hj : j = i
  · subst hj
    by_cases hlt : j < ρ.length
    · rw [List.getElem?_set_self hlt] at h1; cases h1
    · rw [List.getElem?_eq_none (by rw [List.length_set]; omega)] at h1; cases h1
  · rw [List.getElem?_set_ne (Ne.symm hj)] at h1
    exact ⟨j, t, o, h1, h2⟩
theorem ownL_set {i : Nat} {d : Dat} (h : OwnL σ (ρ.set i (.val d)) a) : OwnL σ ρ a := by
  obtain ⟨j, o, h1, h2⟩ := h
  by_cases hj : j = i
  · subst hj
    by_cases hlt : j < ρ.length
    · rw [List.getElem?_set_self hlt] at h1; cases h1
    · rw [List.getElem?_eq_none (by rw [List.length_set]; omega)] at h1; cases h1
  · rw [List.getElem?_set_ne (Ne.symm hj)] at h1
    exact ⟨j, o, h1, h2⟩
/-- one thing is given away; S0: where the expression began -/
theorem mv_ok {σ0 : Sg} {W0 : AS} {ρ0 : En} {x : Vl} {d : Dat} (E0 : EnvR K rf σ0 H0 W0 ρ0) (G : Go K rf σ0 H0 W0 ρ0 σ H W ρ) (r : VlW K rf H0 σ H W ρ v x) (h : mv ρ x = some (d, ρ')) :
    ∃ W', Go K rf σ0 H0 W0 ρ0 σ H W' ρ' ∧ Rp K H W' v d ∧ (∀ a, W' a → W a) ∧ (∀ u y, VlW K rf H0 σ H W ρ u y → VlW K rf H0 σ H W' ρ' u y) := by
  have keep : ∀ {W' : AS} {ρ' : En}, (∀ a, W' a → W a) → (∀ b, Own σ ρ' b → Own σ ρ b) → ∀ u y, VlW K rf H0 σ H W ρ u y → VlW K rf H0 σ H W' ρ' u y := fun {W' ρ'} s o u y q => by
    cases y with
    | dat e => exact Rp.sub (fun a h => .inl (s a h)) q
    | loc i => exact q
    | new ob =>
      obtain ⟨b, e, k, n, nr, f⟩ := q
      exact ⟨b, e, k.sub (fun a h => .inl (s a h)), fun z => n (o b z), nr, f⟩
  cases x with
  | dat e => cases h; exact ⟨W, G, r, fun _ h => h, fun _ _ h => h⟩
  | loc i =>
    have r : σ[i]? = some (some v) := r
    simp only [mv] at h
    split at h
    · rename_i d' e
      cases h
      obtain ⟨v', e1, r1⟩ := G.env.val i _ e
      rw [r] at e1; cases e1
      exact ⟨W, G, r1, fun _ h => h, fun _ _ h => h⟩
    · rename_i ds e
      cases h
      obtain ⟨a, e1, w, _⟩ := G.env.own i _ _ e
      rw [r] at e1; cases e1
      obtain ⟨E', rp⟩ := G.env.freeze e r
      refine ⟨fun b => W b ∧ b ≠ a, ⟨E', G.kp, G.dom, fun b h => G.grow b h.1, fun b h => ?_, fun b h => G.osub b (own_set h), fun b h => G.osubL b (ownL_set h)⟩, rp, fun _ h => h.1, keep (fun _ h => h.1) fun b h => own_set h⟩
      rcases G.lose b h with z | z
      · by_cases hb : b = a
        · subst hb
          rcases G.osubL b ⟨i, _, e, r⟩ with z | z
          · exact .inr z
          · exact absurd z (E0.dom b h)
        · exact .inl ⟨z, hb⟩
      · exact .inr z
    · cases h
  | new o =>
    cases o with
    | dct kvs => cases h
    | lst ds =>
      cases h
      obtain ⟨a, rfl, ⟨xs, o1, o2⟩, n, nr, f⟩ := r
      refine ⟨fun b => W b ∧ b ≠ a, ⟨G.env.less (fun _ h => h.1) fun b h => ⟨G.env.ownW h, fun z => n (z ▸ h)⟩, G.kp, G.dom, fun b h => G.grow b h.1, fun b h => ?_, G.osub, G.osubL⟩, ?_, fun _ h => h.1, keep (fun _ h => h.1) fun b h => h⟩
      · rcases G.lose b h with z | z
        · exact .inl ⟨z, fun q => E0.dom b h (q ▸ f)⟩
        · exact .inr z
      · exact .lst ⟨fun z => z.2 rfl, o1⟩ (o2.mono (O := fun _ => False) (Kp.refl _ _) (fun _ z => z.elim) fun b h => .inl h.1)
inductive VlsW (K : PySem.W.Frag) (rf : List Addr) (H0 : Hp) (σ : Sg) (H : Hp) (W : AS) (ρ : En) : List V → List Vl → Prop
  | nil : VlsW K rf H0 σ H W ρ [] []
  | cons {v : V} {vs : List V} {x : Vl} {xs : List Vl} : VlW K rf H0 σ H W ρ v x → VlsW K rf H0 σ H W ρ vs xs → VlsW K rf H0 σ H W ρ (v :: vs) (x :: xs)
theorem VlsW.imp {H0' : Hp} : ∀ {vs : List V} {xs : List Vl}, VlsW K rf H0 σ H W ρ vs xs → (∀ u y, VlW K rf H0 σ H W ρ u y → VlW K rf H0' σ' H' W' ρ' u y) → VlsW K rf H0' σ' H' W' ρ' vs xs
  | _, _, .nil, _ => .nil
  | _, _, .cons h r, f => .cons (f _ _ h) (VlsW.imp r f)
theorem mvs_ok {σ0 : Sg} {W0 : AS} {ρ0 : En} (E0 : EnvR K rf σ0 H0 W0 ρ0) : ∀ {vs : List V} {xs : List Vl} {ds : List Dat} {W : AS} {ρ ρ' : En}, Go K rf σ0 H0 W0 ρ0 σ H W ρ → VlsW K rf H0 σ H W ρ vs xs → mvs ρ xs = some (ds, ρ') →
    ∃ W', Go K rf σ0 H0 W0 ρ0 σ H W' ρ' ∧ RpAll K H W' vs ds ∧ (∀ a, W' a → W a) ∧ (∀ u y, VlW K rf H0 σ H W ρ u y → VlW K rf H0 σ H W' ρ' u y)
  | _, _, _, W, ρ, _, G, .nil, h => by
    cases h
    exact ⟨W, G, .nil, fun _ h => h, fun _ _ h => h⟩
  | _, _, _, W, ρ, _, G, .cons (x := x) (xs := xs) r rs, h => by
    simp only [mvs] at h
    split at h
    · rename_i d ρ1 e1
      split at h
      · rename_i ds ρ2 e2
        cases h
        obtain ⟨W1, G1, r1, s1, k1⟩ := mv_ok E0 G r e1
        obtain ⟨W2, G2, r2, s2, k2⟩ := mvs_ok E0 G1 (rs.imp k1) e2
        exact ⟨W2, G2, .cons (r1.sub fun a h => .inl (s2 a h)) r2, fun a h => s1 a (s2 a h), fun u y q => k2 u y (k1 u y q)⟩
      · cases h
    · cases h
/-- what a builtin that only reads gives -/
def PRes (K : PySem.W.Frag) (H : Hp) (W : AS) (v : V) (H' : Hp) : Vl → Prop
  | .dat d => Same H H' ∧ Rp K H' W v d
  | .new o => Same H H' ∧ ∃ a, v = .ref a ∧ H a = none ∧ ObjR K H' (fun b => W b ∨ b = a) a o
  | .loc _ => False
theorem Same.dom (k : Same H H') (h : H a ≠ none) : H' a ≠ none := by
  cases e : H a with
  | none => exact absurd e h
  | some u => rw [k a u e]; simp
theorem pres_go {σ0 : Sg} {W0 : AS} {ρ0 : En} {z : Vl} (E0 : EnvR K rf σ0 H0 W0 ρ0) (G : Go K rf σ0 H0 W0 ρ0 σ H W ρ) (r : PRes K H W v H' z) : ∃ W', Go K rf σ0 H0 W0 ρ0 σ H' W' ρ ∧ VlR K rf H0 σ H' W' ρ v z := by
  have kp : Same H H' → Kp (Own σ0 ρ0) H0 H' := fun k => ⟨fun a u n e => k a u (G.kp.keep a u n e)⟩
  cases z with
  | dat d =>
    obtain ⟨k, r⟩ := r
    exact ⟨W, ⟨G.env.same k (fun _ h => .inl h) (fun _ h => h) fun a h => Same.dom k (G.env.dom a h), kp k, fun a h => Same.dom k (G.dom a h), G.grow, G.lose, G.osub, G.osubL⟩, r⟩
  | loc i => exact (show False from r).elim
  | new o =>
    obtain ⟨k, a, rfl, f, ob⟩ := r
    have g : ∀ b, (W b ∨ b = a) → W b ∨ H b = none := fun b h => h.imp_right fun e => by rw [e]; exact f
    refine ⟨fun b => W b ∨ b = a, ⟨G.env.same k g (fun _ h => .inl h) fun b h => ?_, kp k, fun b h => Same.dom k (G.dom b h), fun b h => ?_, fun b h => (G.lose b h).imp_left .inl, G.osub, G.osubL⟩, a, rfl, .inr rfl, ob, fun z => G.env.ownD z f, fun z => G.env.rfd a z f, G.fresh f⟩
    · rcases h with h | rfl
      · exact Same.dom k (G.env.dom b h)
      · exact ob.dom
    · rcases g b h with h | h
      · exact G.grow b h
      · exact .inr (G.fresh h)
end
end DL

/-! text E2 -/
set_option Elab.async false
set_option linter.all false
set_option maxRecDepth 100000
set_option maxHeartbeats 1000000
namespace DL
open PySem PySem.Spec PyProof.Rows L2

abbrev SE := En → (Vl → En → Prop) → Prop
abbrev SB := En → (Bool → En → Prop) → Prop
abbrev SA := En → (List Vl → En → Prop) → Prop
section
variable {X : Cx} {e a b : Expr} {es : List Expr} {pos : Pos} {t t' : TE}
theorem PE.imp (h : PE X e t) (i : ∀ σ H Q, t' σ H Q → t σ H Q) : PE X e t' := ⟨fun pins s σ H Q I q => h.run pins s σ H Q I (i σ H Q q)⟩
theorem PT.imp {t t' : TT} (h : PT X e t) (i : ∀ σ H Q, t' σ H Q → t σ H Q) : PT X e t' := ⟨fun pins s σ H Q I q => h.run pins s σ H Q I (i σ H Q q)⟩
theorem PW.imp {t t' : TT} (h : PW X e t) (i : ∀ σ H Q, t' σ H Q → t σ H Q) : PW X e t' := ⟨fun wh pins s σ H Q I q => h.run wh pins s σ H Q I (i σ H Q q)⟩
theorem PA.imp {t t' : TA} (h : PA X es t) (i : ∀ σ H Q, t' σ H Q → t σ H Q) : PA X es t' := ⟨fun pos pins s σ H Q I q => h.run pos pins s σ H Q I (i σ H Q q)⟩
end

def tE (K : PySem.W.Frag) (s : SE) : TE := fun σ H Q => ∃ (ρ : En) (W : AS) (rf : List Addr) (k : Vl → En → Prop), EnvR K rf σ H W ρ ∧ s ρ k ∧
  ∀ x ρ' v H' W', k x ρ' → Go K rf σ H W ρ σ H' W' ρ' → VlR K rf H σ H' W' ρ' v x → Q v H'
def tT (K : PySem.W.Frag) (s : SB) : TT := fun σ H Q => ∃ (ρ : En) (W : AS) (rf : List Addr) (k : Bool → En → Prop), EnvR K rf σ H W ρ ∧ s ρ k ∧
  ∀ x ρ' H' W', k x ρ' → Go K rf σ H W ρ σ H' W' ρ' → Q x H'
inductive VlsR (K : PySem.W.Frag) (rf : List Addr) (H0 : Hp) (σ : Sg) (H : Hp) (W : AS) (ρ : En) : List V → List Vl → Prop
  | nil : VlsR K rf H0 σ H W ρ [] []
  | cons {v : V} {vs : List V} {x : Vl} {xs : List Vl} : VlR K rf H0 σ H W ρ v x → VlsR K rf H0 σ H W ρ vs xs → VlsR K rf H0 σ H W ρ (v :: vs) (x :: xs)
section
variable {K : PySem.W.Frag} {rf : List Addr} {σ σ' : Sg} {H H' H0 H1 : Hp} {W W' : AS} {ρ ρ' : En} {v : V}
theorem VlsR.w : ∀ {vs : List V} {xs : List Vl}, VlsR K rf H0 σ H W ρ vs xs → VlsW K rf H0 σ H W ρ vs xs
  | _, _, .nil => .nil
  | _, _, .cons h r => .cons h.w r.w
theorem VlsR.early : ∀ {vs : List V} {xs : List Vl}, VlsR K rf H1 σ H W ρ vs xs → (∀ a, H1 a = none → H0 a = none) → VlsR K rf H0 σ H W ρ vs xs
  | _, _, .nil, _ => .nil
  | _, _, .cons h r, f => .cons (h.early f) (r.early f)
theorem VlsR.go (E : EnvR K rf σ H W ρ) (g : Go K rf σ H W ρ σ H' W' ρ') : ∀ {vs : List V} {xs : List Vl}, VlsR K rf H0 σ H W ρ vs xs → VlsR K rf H0 σ H' W' ρ' vs xs
  | _, _, .nil => .nil
  | _, _, .cons h r => .cons (h.go E g) (r.go E g)
end
def tA (K : PySem.W.Frag) (s : SA) : TA := fun σ H Q => ∃ (ρ : En) (W : AS) (rf : List Addr) (k : List Vl → En → Prop), EnvR K rf σ H W ρ ∧ s ρ k ∧
  ∀ x ρ' v H' W', k x ρ' → Go K rf σ H W ρ σ H' W' ρ' → VlsR K rf H σ H' W' ρ' v x → Q v H'

/-! ### names, constants -/
def c_var (i : Nat) : SE := fun ρ k => match ρ[i]? with
  | some (.val d) => k (.dat d) ρ
  | some (.own _ _) => k (.loc i) ρ
  | _ => False
def c_lit (d : Dat) : SE := fun ρ k => k (.dat d) ρ
def litOk : V → Dat → Prop
  | .non, .none => True
  | .bl b, .bool c => b = c
  | .int i, .int j => i = j
  | .str i, .str j => i = j
  | _, _ => False
theorem litOk.rp {K : PySem.W.Frag} {H : Hp} {W : AS} {v : V} {d : Dat} (h : litOk v d) : Rp K H W v d := by
  cases v <;> cases d <;> first | exact False.elim h | skip
  · exact .non
  · cases (show _ = _ from h); exact .bl _
  · cases (show _ = _ from h); exact .int _
  · cases (show _ = _ from h); exact .str _
section
variable {X : Cx} {e a b : Expr} {es : List Expr} {pos : Pos} {sa sb sc : SE}
theorem tVar_of (i : Nat) {σ : Sg} {H : Hp} {Q : VK} (h : tE X.K (c_var i) σ H Q) : tVar i σ H Q := by
  obtain ⟨ρ, W, rf, k, E, h, q⟩ := h
  simp only [c_var] at h
  split at h
  · rename_i d e
    obtain ⟨v, e1, r⟩ := E.val i d e
    exact ⟨v, e1, q _ _ _ _ _ h (Go.refl E) r⟩
  · rename_i t o e
    obtain ⟨a, e1, _⟩ := E.own i t o e
    exact ⟨_, e1, q _ _ _ _ _ h (Go.refl E) e1⟩
  · exact h.elim
theorem e_var {i : Nat} {x : Str} (hN : X.N[i]? = some x) (hv : Vis X.env.scope x) (hd : (x == ("__debug__" : Str)) = false) (hcd : (x == ("__classdict__" : Str)) = false) : PE X (.Name x pos) (tE X.K (c_var i)) :=
  PE.imp (pe_var hN hv hd hcd) fun σ H Q h => tVar_of i h
theorem tC_of {v : V} {d : Dat} (l : litOk v d) {σ : Sg} {H : Hp} {Q : VK} (h : tE X.K (c_lit d) σ H Q) : tC v σ H Q := by
  obtain ⟨ρ, W, rf, k, E, h, q⟩ := h
  exact q _ _ _ _ _ h (Go.refl E) l.rp
theorem e_lit {v : V} {d : Dat} (h : PE X e (tC v)) (l : litOk v d) : PE X e (tE X.K (c_lit d)) := PE.imp h fun _ _ _ h => tC_of l h
theorem e_int {i : Int} {j} : PE X (.Constant (.int i) j pos) (tE X.K (c_lit (.int i))) := e_lit pe_int rfl
theorem e_bl {i : Bool} {j} : PE X (.Constant (.bool i) j pos) (tE X.K (c_lit (.bool i))) := e_lit pe_bl rfl
theorem e_str {i : Str} {j} : PE X (.Constant (.str i) j pos) (tE X.K (c_lit (.str i))) := e_lit pe_str rfl
theorem e_non {j} : PE X (.Constant .none j pos) (tE X.K (c_lit .none)) := e_lit pe_non True.intro

/-! ### what is read, given away -/
def rdK (ρ : En) (x : Vl) (k : Dat → Prop) : Prop := match x with
  | .dat d => k d
  | .new (.lst ds) => k (.list ds)
  | .loc i => (match ρ[i]? with
    | some (.val d) => k d
    | some (.own _ (.lst ds)) => k (.list ds)
    | _ => False)
  | _ => False
theorem rdK_of {ρ : En} {x : Vl} {k : Dat → Prop} (h : rdK ρ x k) : ∃ d, rd ρ x = some d ∧ k d := by
  cases x with
  | dat d => exact ⟨d, rfl, h⟩
  | loc i =>
    simp only [rdK] at h
    simp only [rd]
    split at h
    · rename_i d e; (try rw [e]); exact ⟨d, rfl, h⟩
    · rename_i d e; (try rw [e]); exact ⟨_, rfl, h⟩
    · exact h.elim
  | new o =>
    cases o with
    | lst ds => exact ⟨_, rfl, h⟩
    | dct kvs => exact (show False from h).elim
def rdsK (ρ : En) : List Vl → (List Dat → Prop) → Prop
  | [], k => k []
  | x :: xs, k => rdK ρ x fun d => rdsK ρ xs fun ds => k (d :: ds)
inductive RrAll (K : PySem.W.Frag) (H : Hp) (W : AS) : List V → List Dat → Prop
  | nil : RrAll K H W [] []
  | cons {v : V} {vs : List V} {d : Dat} {ds : List Dat} : Rr K H W v d → RrAll K H W vs ds → RrAll K H W (v :: vs) (d :: ds)
theorem rdsK_of {K : PySem.W.Frag} {rf : List Addr} {H0 : Hp} {σ : Sg} {H : Hp} {W : AS} {ρ : En} (E : EnvR K rf σ H W ρ) : ∀ {vs : List V} {xs : List Vl} {k : List Dat → Prop}, VlsR K rf H0 σ H W ρ vs xs → rdsK ρ xs k → ∃ ds, RrAll K H W vs ds ∧ k ds
  | _, _, _, .nil, h => ⟨[], .nil, h⟩
  | _, _, _, .cons r rs, h => by
    obtain ⟨d, e, h⟩ := rdK_of h
    obtain ⟨ds, r2, h⟩ := rdsK_of E rs h
    exact ⟨d :: ds, .cons (r.rd E e) r2, h⟩
def mvK (ρ : En) (x : Vl) (k : Dat → En → Prop) : Prop := match x with
  | .dat d => k d ρ
  | .new (.lst ds) => k (.list ds) ρ
  | .loc i => (match ρ[i]? with
    | some (.val d) => k d ρ
    | some (.own 0 (.lst ds)) => k (.list ds) (ρ.set i (.val (.list ds)))
    | _ => False)
  | _ => False
theorem mvK_of {ρ : En} {x : Vl} {k : Dat → En → Prop} (h : mvK ρ x k) : ∃ d ρ', mv ρ x = some (d, ρ') ∧ k d ρ' := by
  cases x with
  | dat d => exact ⟨d, ρ, rfl, h⟩
  | loc i =>
    simp only [mvK] at h
    simp only [mv]
    split at h
    · rename_i d e; (try rw [e]); exact ⟨d, ρ, rfl, h⟩
    · rename_i d e; (try rw [e]); exact ⟨_, _, rfl, h⟩
    · exact h.elim
  | new o =>
    cases o with
    | lst ds => exact ⟨_, _, rfl, h⟩
    | dct kvs => exact (show False from h).elim
def mvsK (ρ : En) : List Vl → (List Dat → En → Prop) → Prop
  | [], k => k [] ρ
  | x :: xs, k => mvK ρ x fun d ρ1 => mvsK ρ1 xs fun ds ρ2 => k (d :: ds) ρ2
theorem mvsK_of : ∀ {ρ : En} {xs : List Vl} {k : List Dat → En → Prop}, mvsK ρ xs k → ∃ ds ρ', mvs ρ xs = some (ds, ρ') ∧ k ds ρ'
  | ρ, [], _, h => ⟨[], ρ, rfl, h⟩
  | ρ, x :: xs, _, h => by
    obtain ⟨d, ρ1, e1, h⟩ := mvK_of h
    obtain ⟨ds, ρ2, e2, h⟩ := mvsK_of h
    exact ⟨d :: ds, ρ2, by simp only [mvs, e1, e2], h⟩

/-! ### two places -/
abbrev F1 := Dat → (Vl → Prop) → Prop
abbrev F2 := Dat → Dat → (Vl → Prop) → Prop
abbrev B2 := Dat → Dat → (Bool → Prop) → Prop
abbrev FN := List Dat → (Vl → Prop) → Prop
def c_bin (f : F2) (a b : SE) : SE := fun ρ k => a ρ fun x ρ1 => b ρ1 fun y ρ2 => rdK ρ2 x fun d => rdK ρ2 y fun e => f d e fun z => k z ρ2
def rB (K : PySem.W.Frag) (f : F2) : R2 := fun x y H Q => ∃ (W : AS) (d e : Dat) (P : Vl → Prop), (∀ a, W a → H a ≠ none) ∧ Rr K H W x d ∧ Rr K H W y e ∧ f d e P ∧ ∀ z v H', P z → PRes K H W v H' z → Q v H'
theorem tOp_of {f : F2} {σ : Sg} {H : Hp} {Q : VK} (h : tE X.K (c_bin f sa sb) σ H Q) : tOp (rB X.K f) (tE X.K sa) (tE X.K sb) σ H Q := by
  obtain ⟨ρ, W, rf, k, E, h, q⟩ := h
  refine ⟨ρ, W, rf, _, E, h, fun x ρ1 v H1 W1 h1 G1 r1 => ?_⟩
  refine ⟨ρ1, W1, rf, _, G1.env, h1, fun y ρ2 u H2 W2 h2 G2 r2 => ?_⟩
  obtain ⟨d, ed, h2⟩ := rdK_of h2
  obtain ⟨e, ee, h2⟩ := rdK_of h2
  have G := G1.trans E G2
  exact ⟨W2, d, e, _, G2.env.dom, (r1.go G1.env G2).rd G2.env ed, r2.rd G2.env ee, h2, fun z w H3 kz pr => let ⟨W3, G3, r3⟩ := pres_go E G pr; q _ _ _ _ _ kz G3 r3⟩
theorem e_bin {op : Operator} {f : F2} (ho : OpR X (binaryOp op) (rB X.K f)) (ha : PE X a (tE X.K sa)) (hb : PE X b (tE X.K sb)) : PE X (.BinOp a op b pos) (tE X.K (c_bin f sa sb)) :=
  PE.imp (pe_op ho ha hb) fun _ _ _ h => tOp_of h
/-- a comparison's answer -/
def bF (f : B2) : F2 := fun d e P => f d e fun b => P (.dat (.bool b))
def c_cmp (f : B2) (a b : SE) : SE := c_bin (bF f) a b
theorem e_cmp {op : CmpOp} {f : B2} (ho : OpR X (compareOp op) (rB X.K (bF f))) (ha : PE X a (tE X.K sa)) (hb : PE X b (tE X.K sb)) (hm : behindInMarks op b = false) :
    PE X (.Compare a [op] [b] pos) (tE X.K (c_cmp f sa sb)) := PE.imp (pe_cmpR ho ha hb hm) fun _ _ _ h => tOp_of h
/-- where a truth value is wanted -/
def asB (k : Bool → En → Prop) : Vl → En → Prop := fun x ρ => match x with
  | .dat (.bool b) => k b ρ
  | _ => False
theorem asB_of {k : Bool → En → Prop} {x : Vl} {ρ : En} (h : asB k x ρ) : ∃ b, x = .dat (.bool b) ∧ k b ρ := by
  simp only [asB] at h
  split at h
  · exact ⟨_, rfl, h⟩
  · exact h.elim
def c_val (s : SE) : SB := fun ρ k => s ρ (asB k)
theorem tT_val {s : SE} {σ : Sg} {H : Hp} {Q : Bool → Hp → Prop} (h : tT X.K (c_val s) σ H Q) : tE X.K s σ H fun x H1 => ∃ c, x = .bl c ∧ Q c H1 := by
  obtain ⟨ρ, W, rf, k, E, h, q⟩ := h
  refine ⟨ρ, W, rf, _, E, h, fun x ρ' v H' W' hx G r => ?_⟩
  obtain ⟨b, rfl, kx⟩ := asB_of hx
  have rt : Rp X.K H' W' v (.bool b) := r
  cases rt
  exact ⟨b, rfl, q _ _ _ _ kx G⟩
theorem t_val {s : SE} (h : PE X e (tE X.K s)) (he : ∀ whole, isTrue e X.env whole = (do let v ← whole; standAt e.pos; holding [v] (truthy v))) : PT X e (tT X.K (c_val s)) :=
  PT.imp (pt_val h he) fun _ _ _ h => tT_val h
theorem t_cmp {op : CmpOp} {f : B2} (ho : OpR X (compareOp op) (rB X.K (bF f))) (ha : PE X a (tE X.K sa)) (hb : PE X b (tE X.K sb)) (hm : behindInMarks op b = false) :
    PT X (.Compare a [op] [b] pos) (tT X.K (c_val (c_cmp f sa sb))) := PT.imp (pt_cmpR ho ha hb hm) fun σ H Q h => tOp_of (tT_val h)

/-! ### chains of comparisons -/
abbrev SQ := Vl → SE
def tQ (K : PySem.W.Frag) (s : SQ) : V → TE := fun v0 σ H Q => ∃ (ρ : En) (W : AS) (rf : List Addr) (k : Vl → En → Prop) (x0 : Vl) (Hs : Hp), EnvR K rf σ H W ρ ∧ VlR K rf Hs σ H W ρ v0 x0 ∧ s x0 ρ k ∧
  ∀ x ρ' v H' W', k x ρ' → Go K rf σ H W ρ σ H' W' ρ' → VlR K rf H σ H' W' ρ' v x → Q v H'
structure PQ (X : Cx) (ops : List CmpOp) (rs : List Expr) (t : V → TE) : Prop where
  run : ∀ (pos : Pos) (pins : List (Addr × Obj)) (s : Shared) (σ : Sg) (H : Hp) (Q : VK) (x : V) (v : Value), Inv X pins σ H s → RelV x v → t x σ H Q → wpAny (model X.prog X.w) X.A (compareChain pos v ops (evalEach rs X.env)) (EP X pins σ Q) X.xe s
  test : ∀ (pos : Pos) (pins : List (Addr × Obj)) (s : Shared) (σ : Sg) (H : Hp) (Q : Bool → Hp → Prop) (x : V) (v : Value), Inv X pins σ H s → RelV x v → t x σ H (fun x H1 => ∃ c, x = .bl c ∧ Q c H1) → wpAny (model X.prog X.w) X.A (testChain pos v ops (evalEach rs X.env)) (TP X pins σ Q) X.xe s
theorem PQ.imp {ops : List CmpOp} {rs : List Expr} {t t' : V → TE} (h : PQ X ops rs t) (i : ∀ x σ H Q, t' x σ H Q → t x σ H Q) : PQ X ops rs t' :=
  ⟨fun pos pins s σ H Q x v I r q => h.run pos pins s σ H Q x v I r (i _ _ _ _ q), fun pos pins s σ H Q x v I r q => h.test pos pins s σ H Q x v I r (i _ _ _ _ q)⟩
theorem pq_one {op : CmpOp} {r : R2} {c : Expr} {tc : TE} (ho : OpR X (compareOp op) r) (hc : PE X c tc) : PQ X [op] [c] (fun x σ H Q => tc σ H fun y H1 => r x y H1 Q) := by
  refine ⟨fun pos pins s σ H Q x v I rx h => ?_, fun pos pins s σ H Q x v I rx h => ?_⟩
  · exact chain_last (thn (hc.run pins s σ H _ I h) fun u s1 ⟨y, H1, I1, r1, q1⟩ => ho pins s1 σ H1 x y v u Q I1 rx r1 q1)
  · refine test_last (thn (hc.run pins s σ H _ I h) fun u s1 ⟨y, H1, I1, r1, q1⟩ => thn (ho pins s1 σ H1 x y v u _ I1 rx r1 q1) fun c s2 ⟨z, H2, I2, r2, k, e, q2⟩ => ?_)
    subst e
    cases r2
    exact wpAny_truthy_bool ⟨H2, I2, q2⟩
theorem pq_cons {op op' : CmpOp} {ops : List CmpOp} {r : R2} {b c : Expr} {rs : List Expr} {tb : TE} {t : V → TE} (ho : OpR X (compareOp op) r) (hb : PE X b tb) (hr : PQ X (op' :: ops) (c :: rs) t) :
    PQ X (op :: op' :: ops) (b :: c :: rs) (fun x σ H Q => tb σ H fun y H2 => r x y H2 fun z H3 => ∃ k, z = .bl k ∧ if k = true then t y σ H3 Q else Q (.bl false) H3) := by
  refine ⟨fun pos pins s σ H Q x v I rx h => ?_, fun pos pins s σ H Q x v I rx h => ?_⟩
  · refine chain_link (thn (hb.run pins s σ H _ I h) fun u s1 ⟨y, H1, I1, r1, q1⟩ => thn (ho pins s1 σ H1 x y v u _ I1 rx r1 q1) fun d s2 ⟨z, H2, I2, r2, k, e, q2⟩ => ?_)
    subst e
    cases r2
    refine wpAny_truthy_bool ?_
    cases k with
    | false => exact ite_ff ⟨.bl false, H2, I2, rfl, q2⟩
    | true => exact ite_tt (hr.run pos pins s2 σ H2 Q y u I2 r1 q2)
  · refine test_link (thn (hb.run pins s σ H _ I h) fun u s1 ⟨y, H1, I1, r1, q1⟩ => thn (ho pins s1 σ H1 x y v u _ I1 rx r1 q1) fun d s2 ⟨z, H2, I2, r2, k, e, q2⟩ => ?_)
    subst e
    cases r2
    refine wpAny_truthy_bool ?_
    cases k with
    | false =>
      obtain ⟨k', e', q'⟩ := q2
      cases e'
      exact ite_ff ⟨H2, I2, q'⟩
    | true => exact ite_tt (hr.test pos pins s2 σ H2 Q y u I2 r1 q2)
theorem pe_chainN {op op' : CmpOp} {ops : List CmpOp} {b c : Expr} {rs : List Expr} {ta : TE} {t : V → TE} (ha : PE X a ta) (hr : PQ X (op :: op' :: ops) (b :: c :: rs) t) (hm : lastMarks (op :: op' :: ops) (b :: c :: rs) = false) :
    PE X (.Compare a (op :: op' :: ops) (b :: c :: rs) pos) (fun σ H Q => ta σ H fun x H1 => t x σ H1 Q) :=
  ⟨fun pins s σ H Q I h => Compare_chain (thn (ha.run pins s σ H _ I h) fun v s1 ⟨x, H1, I1, r1, q1⟩ => hr.run pos pins s1 σ H1 Q x v I1 r1 q1) hm⟩
theorem pt_chainN {op op' : CmpOp} {ops : List CmpOp} {b c : Expr} {rs : List Expr} {ta : TE} {t : V → TE} (ha : PE X a ta) (hr : PQ X (op :: op' :: ops) (b :: c :: rs) t) (hm : lastMarks (op :: op' :: ops) (b :: c :: rs) = false) :
    PT X (.Compare a (op :: op' :: ops) (b :: c :: rs) pos) (fun σ H Q => ta σ H fun x H1 => t x σ H1 fun x H1 => ∃ c, x = .bl c ∧ Q c H1) :=
  ⟨fun pins s σ H Q I h => isTrue_chain (thn (ha.run pins s σ H _ I h) fun v s1 ⟨x, H1, I1, r1, q1⟩ => hr.test pos pins s1 σ H1 Q x v I1 r1 q1) hm⟩
def q_one (f : B2) (c : SE) : SQ := fun x ρ k => c ρ fun y ρ1 => rdK ρ1 x fun d => rdK ρ1 y fun e => f d e fun b => k (.dat (.bool b)) ρ1
def q_cons (f : B2) (b : SE) (r : SQ) : SQ := fun x ρ k => b ρ fun y ρ1 => rdK ρ1 x fun d => rdK ρ1 y fun e => f d e fun t => if t = true then r y ρ1 k else k (.dat (.bool false)) ρ1
def c_chain (a : SE) (r : SQ) : SE := fun ρ k => a ρ fun x ρ1 => r x ρ1 k
theorem q_one_ok {op : CmpOp} {f : B2} {c : Expr} (ho : OpR X (compareOp op) (rB X.K (bF f))) (hc : PE X c (tE X.K sc)) : PQ X [op] [c] (tQ X.K (q_one f sc)) :=
  PQ.imp (pq_one ho hc) fun v0 σ H Q ⟨ρ, W, rf, k, x0, Hs, E, r0, h, q⟩ => by
    refine ⟨ρ, W, rf, _, E, h, fun y ρ1 u H1 W1 h1 G1 r1 => ?_⟩
    obtain ⟨d, ed, h1⟩ := rdK_of h1
    obtain ⟨e, ee, h1⟩ := rdK_of h1
    refine ⟨W1, d, e, fun z => asB (fun b r => k (.dat (.bool b)) r) z ρ1, G1.env.dom, (r0.go E G1).rd G1.env ed, r1.rd G1.env ee, h1, fun z w H3 kz pr => ?_⟩
    obtain ⟨b, rfl, kz⟩ := asB_of kz
    obtain ⟨W3, G3, r3⟩ := pres_go E G1 pr
    exact q _ _ _ _ _ kz G3 r3
theorem q_cons_ok {op op' : CmpOp} {ops : List CmpOp} {f : B2} {b c : Expr} {rs : List Expr} {r : SQ} (ho : OpR X (compareOp op) (rB X.K (bF f))) (hb : PE X b (tE X.K sb)) (hr : PQ X (op' :: ops) (c :: rs) (tQ X.K r)) :
    PQ X (op :: op' :: ops) (b :: c :: rs) (tQ X.K (q_cons f sb r)) :=
  PQ.imp (pq_cons ho hb hr) fun v0 σ H Q ⟨ρ, W, rf, k, x0, Hs, E, r0, h, q⟩ => by
    refine ⟨ρ, W, rf, _, E, h, fun y ρ1 u H1 W1 h1 G1 r1 => ?_⟩
    obtain ⟨d, ed, h1⟩ := rdK_of h1
    obtain ⟨e, ee, h1⟩ := rdK_of h1
    refine ⟨W1, d, e, fun z => asB (fun t r' => if t = true then r y r' k else k (.dat (.bool false)) r') z ρ1, G1.env.dom, (r0.go E G1).rd G1.env ed, r1.rd G1.env ee, h1, fun z w H3 kz pr => ?_⟩
    obtain ⟨t, rfl, kz⟩ := asB_of kz
    obtain ⟨W3, G3, r3⟩ := pres_go G1.env (Go.refl G1.env) pr
    have rt : Rp X.K H3 W3 w (.bool t) := r3
    cases rt
    refine ⟨t, rfl, ?_⟩
    have GG := G1.trans E G3
    cases t with
    | false => exact q _ _ _ _ _ kz GG (.bl false)
    | true =>
      refine ⟨ρ1, W3, rf, k, y, H, GG.env, r1.go G1.env G3, kz, fun x ρ' v' H' W' kx G' r' => ?_⟩
      exact q _ _ _ _ _ kx (GG.trans E G') (r'.early fun a h => GG.fresh h)
theorem tChain_of {r : SQ} {σ : Sg} {H : Hp} {Q : VK} (h : tE X.K (c_chain sa r) σ H Q) : tE X.K sa σ H fun x H1 => tQ X.K r x σ H1 Q := by
  obtain ⟨ρ, W, rf, k, E, h, q⟩ := h
  refine ⟨ρ, W, rf, _, E, h, fun x ρ1 v H1 W1 h1 G1 r1 => ?_⟩
  exact ⟨ρ1, W1, rf, k, x, H, G1.env, r1, h1, fun y ρ' v' H' W' ky G' r' => q _ _ _ _ _ ky (G1.trans E G') (r'.early fun a h => G1.fresh h)⟩
theorem e_chain {op op' : CmpOp} {ops : List CmpOp} {b c : Expr} {rs : List Expr} {r : SQ} (ha : PE X a (tE X.K sa)) (hr : PQ X (op :: op' :: ops) (b :: c :: rs) (tQ X.K r)) (hm : lastMarks (op :: op' :: ops) (b :: c :: rs) = false) :
    PE X (.Compare a (op :: op' :: ops) (b :: c :: rs) pos) (tE X.K (c_chain sa r)) := PE.imp (pe_chainN ha hr hm) fun _ _ _ h => tChain_of h
theorem t_chain {op op' : CmpOp} {ops : List CmpOp} {b c : Expr} {rs : List Expr} {r : SQ} (ha : PE X a (tE X.K sa)) (hr : PQ X (op :: op' :: ops) (b :: c :: rs) (tQ X.K r)) (hm : lastMarks (op :: op' :: ops) (b :: c :: rs) = false) :
    PT X (.Compare a (op :: op' :: ops) (b :: c :: rs) pos) (tT X.K (c_val (c_chain sa r))) := PT.imp (pt_chainN ha hr hm) fun _ _ _ h => tChain_of (tT_val h)

/-! ### and, or, not, if -/
def c_and (s t : SB) : SB := fun ρ k => s ρ fun b ρ1 => if b = true then t ρ1 k else k false ρ1
def c_or (s t : SB) : SB := fun ρ k => s ρ fun b ρ1 => if b = true then k true ρ1 else t ρ1 k
def c_not (s : SB) : SB := fun ρ k => s ρ fun b ρ1 => k (!b) ρ1
def c_andV (s t : SE) : SE := fun ρ k => s ρ (asB fun b ρ1 => if b = true then t ρ1 k else k (.dat (.bool false)) ρ1)
def c_orV (s t : SE) : SE := fun ρ k => s ρ (asB fun b ρ1 => if b = true then k (.dat (.bool true)) ρ1 else t ρ1 k)
def c_notV (s : SE) : SE := fun ρ k => s ρ (asB fun b ρ1 => k (.dat (.bool (!b))) ρ1)
def c_if (t : SB) (a b : SE) : SE := fun ρ k => t ρ fun c ρ1 => if c = true then a ρ1 k else b ρ1 k
section
variable {s t : SB} {rest : List Expr}
theorem then_T {K : PySem.W.Frag} {rf : List Addr} {σ : Sg} {H H1 : Hp} {W W1 : AS} {ρ ρ1 : En} {k : Bool → En → Prop} {Q : Bool → Hp → Prop} (E : EnvR K rf σ H W ρ) (G : Go K rf σ H W ρ σ H1 W1 ρ1) (q : ∀ x ρ' H' W', k x ρ' → Go K rf σ H W ρ σ H' W' ρ' → Q x H') (h : t ρ1 k) : tT K t σ H1 Q :=
  ⟨ρ1, W1, rf, k, G.env, h, fun x ρ' H' W' kx G' => q _ _ _ _ kx (G.trans E G')⟩
theorem then_E {K : PySem.W.Frag} {s : SE} {rf : List Addr} {σ : Sg} {H H1 : Hp} {W W1 : AS} {ρ ρ1 : En} {k : Vl → En → Prop} {Q : VK} (E : EnvR K rf σ H W ρ) (G : Go K rf σ H W ρ σ H1 W1 ρ1) (q : ∀ x ρ' v H' W', k x ρ' → Go K rf σ H W ρ σ H' W' ρ' → VlR K rf H σ H' W' ρ' v x → Q v H') (h : s ρ1 k) : tE K s σ H1 Q :=
  ⟨ρ1, W1, rf, k, G.env, h, fun x ρ' v H' W' kx G' r => q _ _ _ _ _ kx (G.trans E G') (r.early fun a h => G.fresh h)⟩
theorem w_and1 (ha : PT X a (tT X.K s)) : PW X (.BoolOp .And [a] pos) (tT X.K s) := pw_and1 ha
theorem w_or1 (ha : PT X a (tT X.K s)) : PW X (.BoolOp .Or [a] pos) (tT X.K s) := pw_or1 ha
theorem w_and (ha : PT X a (tT X.K s)) (hb : PW X (.BoolOp .And (b :: rest) pos) (tT X.K t)) : PW X (.BoolOp .And (a :: b :: rest) pos) (tT X.K (c_and s t)) :=
  PW.imp (pw_and ha hb) fun σ H Q ⟨ρ, W, rf, k, E, h, q⟩ => ⟨ρ, W, rf, _, E, h, fun c ρ1 H1 W1 h1 G1 => by
    cases c with
    | true => exact then_T E G1 q h1
    | false => exact q _ _ _ _ h1 G1⟩
theorem w_or (ha : PT X a (tT X.K s)) (hb : PW X (.BoolOp .Or (b :: rest) pos) (tT X.K t)) : PW X (.BoolOp .Or (a :: b :: rest) pos) (tT X.K (c_or s t)) :=
  PW.imp (pw_or ha hb) fun σ H Q ⟨ρ, W, rf, k, E, h, q⟩ => ⟨ρ, W, rf, _, E, h, fun c ρ1 H1 W1 h1 G1 => by
    cases c with
    | false => exact then_T E G1 q h1
    | true => exact q _ _ _ _ h1 G1⟩
theorem t_not (ha : PT X a (tT X.K s)) : PT X (.UnaryOp .Not a pos) (tT X.K (c_not s)) :=
  PT.imp (pt_not ha) fun σ H Q ⟨ρ, W, rf, k, E, h, q⟩ => ⟨ρ, W, rf, _, E, h, fun c ρ1 H1 W1 h1 G1 => q _ _ _ _ h1 G1⟩
theorem e_one {op} {s : SE} (ha : PE X a (tE X.K s)) : PE X (.BoolOp op [a] pos) (tE X.K s) := pe_one ha
theorem e_and {s t : SE} (ha : PE X a (tE X.K s)) (hb : PE X (.BoolOp .And (b :: rest) pos) (tE X.K t)) : PE X (.BoolOp .And (a :: b :: rest) pos) (tE X.K (c_andV s t)) :=
  PE.imp (pe_and ha hb) fun σ H Q ⟨ρ, W, rf, k, E, h, q⟩ => ⟨ρ, W, rf, _, E, h, fun x ρ1 v H1 W1 h1 G1 r1 => by
    obtain ⟨c, rfl, h1⟩ := asB_of h1
    have rt : Rp X.K H1 W1 v (.bool c) := r1
    cases rt
    refine ⟨c, rfl, ?_⟩
    cases c with
    | true => exact then_E E G1 q h1
    | false => exact q _ _ _ _ _ h1 G1 (.bl _)⟩
theorem e_or {s t : SE} (ha : PE X a (tE X.K s)) (hb : PE X (.BoolOp .Or (b :: rest) pos) (tE X.K t)) : PE X (.BoolOp .Or (a :: b :: rest) pos) (tE X.K (c_orV s t)) :=
  PE.imp (pe_or ha hb) fun σ H Q ⟨ρ, W, rf, k, E, h, q⟩ => ⟨ρ, W, rf, _, E, h, fun x ρ1 v H1 W1 h1 G1 r1 => by
    obtain ⟨c, rfl, h1⟩ := asB_of h1
    have rt : Rp X.K H1 W1 v (.bool c) := r1
    cases rt
    refine ⟨c, rfl, ?_⟩
    cases c with
    | false => exact then_E E G1 q h1
    | true => exact q _ _ _ _ _ h1 G1 (.bl _)⟩
theorem e_not {s : SE} (ha : PE X a (tE X.K s)) : PE X (.UnaryOp .Not a pos) (tE X.K (c_notV s)) :=
  PE.imp (L2.pe_not ha) fun σ H Q ⟨ρ, W, rf, k, E, h, q⟩ => ⟨ρ, W, rf, _, E, h, fun x ρ1 v H1 W1 h1 G1 r1 => by
    obtain ⟨c, rfl, h1⟩ := asB_of h1
    have rt : Rp X.K H1 W1 v (.bool c) := r1
    cases rt
    exact ⟨c, rfl, q _ _ _ _ _ h1 G1 (.bl _)⟩⟩
theorem e_if {c : Expr} {s t : SE} {st : SB} (hc : PT X c (tT X.K st)) (ha : PE X a (tE X.K s)) (hb : PE X b (tE X.K t)) : PE X (.IfExp c a b pos) (tE X.K (c_if st s t)) :=
  PE.imp (pe_ifExp hc ha hb) fun σ H Q ⟨ρ, W, rf, k, E, h, q⟩ => ⟨ρ, W, rf, _, E, h, fun x ρ1 H1 W1 h1 G1 => by
    cases x with
    | true => exact then_E E G1 q h1
    | false => exact then_E E G1 q h1⟩
end

/-! ### argument lists, displays -/
def a_nil : SA := fun ρ k => k [] ρ
def a_cons (s : SE) (r : SA) : SA := fun ρ k => s ρ fun x ρ1 => r ρ1 fun xs ρ2 => k (x :: xs) ρ2
theorem e_anil : PA X [] (tA X.K a_nil) := PA.imp pa_nil fun σ H Q ⟨ρ, W, rf, k, E, h, q⟩ => q _ _ _ _ _ h (Go.refl E) .nil
theorem e_acons {s : SE} {r : SA} (ha : PE X e (tE X.K s)) (hr : PA X es (tA X.K r)) (hs : starEach (e :: es) X.env = (false, eval e X.env) :: starEach es X.env) : PA X (e :: es) (tA X.K (a_cons s r)) :=
  PA.imp (pa_cons ha hr hs) fun σ H Q ⟨ρ, W, rf, k, E, h, q⟩ => ⟨ρ, W, rf, _, E, h, fun x ρ1 v H1 W1 h1 G1 r1 =>
    ⟨ρ1, W1, rf, _, G1.env, h1, fun xs ρ2 vs H2 W2 h2 G2 r2 => q _ _ _ _ _ h2 (G1.trans E G2) (.cons (r1.go G1.env G2) (r2.early fun a h => G1.fresh h))⟩⟩
def c_tup (s : SA) : SE := fun ρ k => s ρ fun xs ρ1 => mvsK ρ1 xs fun ds ρ2 => ds.length ≤ 16777216 ∧ k (.dat (.tuple ds)) ρ2
def c_lst (s : SA) : SE := fun ρ k => s ρ fun xs ρ1 => mvsK ρ1 xs fun ds ρ2 => ds.length ≤ 16777216 ∧ k (.new (.lst ds)) ρ2
theorem Same.upd {H : Hp} {p : Addr} {o : HO} (h : H p = none) : Same H (upd H p o) := fun b u e => by
  rw [upd_ne (ne_of_none e h)]; exact e
theorem RpAll.same {K : PySem.W.Frag} {H H' : Hp} {W W' : AS} {vs : List V} {ds : List Dat} (k : Same H H') (g : ∀ a, W' a → W a ∨ H a = none) (r : RpAll K H W vs ds) : RpAll K H' W' vs ds :=
  r.mono (O := fun _ => False) ⟨fun a u _ e => k a u e⟩ (fun _ z => z.elim) g
theorem Rp.same {K : PySem.W.Frag} {H H' : Hp} {W W' : AS} {v : V} {d : Dat} (k : Same H H') (g : ∀ a, W' a → W a ∨ H a = none) (r : Rp K H W v d) : Rp K H' W' v d :=
  r.mono (O := fun _ => False) ⟨fun a u _ e => k a u e⟩ (fun _ z => z.elim) g
theorem Rp.newT {K : PySem.W.Frag} {H : Hp} {W : AS} {p : Addr} {vs : List V} {ds : List Dat} (dom : ∀ a, W a → H a ≠ none) (hp : H p = none) (r : RpAll K H W vs ds) : Rp K (upd H p (.tup vs)) W (.ref p) (.tuple ds) :=
  .tup (.inl ⟨fun z => dom p z hp, .inl upd_same⟩) (r.same (Same.upd hp) fun _ h => .inl h)
theorem pres_tup {K : PySem.W.Frag} {H : Hp} {W : AS} {p : Addr} {vs : List V} {ds : List Dat} (dom : ∀ a, W a → H a ≠ none) (hp : H p = none) (r : RpAll K H W vs ds) : PRes K H W (.ref p) (upd H p (.tup vs)) (.dat (.tuple ds)) :=
  ⟨Same.upd hp, Rp.newT dom hp r⟩
theorem pres_lst {K : PySem.W.Frag} {H : Hp} {W : AS} {p : Addr} {vs : List V} {ds : List Dat} (hp : H p = none) (r : RpAll K H W vs ds) : PRes K H W (.ref p) (upd H p (.lst vs)) (.new (.lst ds)) :=
  ⟨Same.upd hp, p, rfl, hp, vs, upd_same, r.same (Same.upd hp) fun a h => h.imp_right fun e => by rw [e]; exact hp⟩
theorem e_tup {x1} {s : SA} (h : PA X es (tA X.K s)) : PE X (.Tuple es x1 pos) (tE X.K (c_tup s)) :=
  PE.imp (pe_tup h) fun σ H Q ⟨ρ, W, rf, k, E, h, q⟩ => ⟨ρ, W, rf, _, E, h, fun xs ρ1 vs H1 W1 h1 G1 r1 => by
    obtain ⟨ds, ρ2, em, hz, kz⟩ := mvsK_of h1
    obtain ⟨W2, G2, ra, _, _⟩ := mvs_ok E G1 r1.w em
    refine ⟨by rw [ra.length, sizeLine_eq]; exact hz, fun p hp => ?_⟩
    obtain ⟨W3, G3, r3⟩ := pres_go E G2 (pres_tup G2.env.dom hp ra)
    exact q _ _ _ _ _ kz G3 r3⟩
theorem e_lst {s : SA} (h : PA X es (tA X.K s)) : PE X (.List es pos) (tE X.K (c_lst s)) :=
  PE.imp (pe_lst h) fun σ H Q ⟨ρ, W, rf, k, E, h, q⟩ => ⟨ρ, W, rf, _, E, h, fun xs ρ1 vs H1 W1 h1 G1 r1 => by
    obtain ⟨ds, ρ2, em, hz, kz⟩ := mvsK_of h1
    obtain ⟨W2, G2, ra, _, _⟩ := mvs_ok E G1 r1.w em
    refine ⟨by rw [ra.length, sizeLine_eq]; exact hz, fun p hp => ?_⟩
    obtain ⟨W3, G3, r3⟩ := pres_go E G2 (pres_lst hp ra)
    exact q _ _ _ _ _ kz G3 r3⟩

/-! ### builtins that only read -/
def c_fn (g : FN) (s : SA) : SE := fun ρ k => s ρ fun xs ρ1 => rdsK ρ1 xs fun ds => g ds fun z => k z ρ1
def rC (K : PySem.W.Frag) (g : FN) : List V → Hp → VK → Prop := fun xs H Q => ∃ (W : AS) (ds : List Dat) (P : Vl → Prop), (∀ a, W a → H a ≠ none) ∧ RrAll K H W xs ds ∧ g ds P ∧ ∀ z v H', P z → PRes K H W v H' z → Q v H'
theorem tC_of_fn {g : FN} {s : SA} {σ : Sg} {H : Hp} {Q : VK} (h : tE X.K (c_fn g s) σ H Q) : tCB (rC X.K g) (tA X.K s) σ H Q := by
  obtain ⟨ρ, W, rf, k, E, h, q⟩ := h
  refine ⟨ρ, W, rf, _, E, h, fun xs ρ1 vs H1 W1 h1 G1 r1 => ?_⟩
  obtain ⟨ds, ra, h1⟩ := rdsK_of G1.env r1 h1
  exact ⟨W1, ds, _, G1.env.dom, ra, h1, fun z v H' kz pr => let ⟨W3, G3, r3⟩ := pres_go E G1 pr; q _ _ _ _ _ kz G3 r3⟩
theorem e_fnB {g : FN} {s : SA} {id : String} {x : Str} {p : Pos} (hc : CallR X (.builtin id) (rC X.K g)) (hg : Gl X x) (hm : X.mg x = none) (hv : bootBuiltins x = some (.builtin id)) (ha : PA X (e :: es) (tA X.K s)) (hn : x ≠ "__name__") (hdb : (x == ("__debug__" : Str)) = false)
    (he : starEach (e :: es) X.env = (false, eval e X.env) :: starEach es X.env) (hpl : (backTo pos (starEach es X.env)).any (·.1) = false) : PE X (.Call (.Name x p) (e :: es) [] pos) (tE X.K (c_fn g s)) :=
  PE.imp (pe_callB hc hg hm hv ha hn hdb he hpl) fun _ _ _ h => tC_of_fn h
theorem e_fnT {g : FN} {s : SA} {T : String} {x : Str} {p : Pos} (hc : CallR X (.type T) (rC X.K g)) (hg : Gl X x) (hm : X.mg x = none) (hv : bootBuiltins x = some (.type T)) (ha : PA X (e :: es) (tA X.K s)) (hn : x ≠ "__name__") (hdb : (x == ("__debug__" : Str)) = false)
    (he : starEach (e :: es) X.env = (false, eval e X.env) :: starEach es X.env) (hpl : (backTo pos (starEach es X.env)).any (·.1) = false) : PE X (.Call (.Name x p) (e :: es) [] pos) (tE X.K (c_fn g s)) :=
  PE.imp (pe_callTy hc hg hm hv ha hn hdb he hpl) fun _ _ _ h => tC_of_fn h

/-! ### a[b], a[l:u] -/
def c_idx (f : F2) (a b : SE) : SE := c_bin f a b
theorem e_idx {f : F2} (hr : IxR X (rB X.K f)) (ha : PE X a (tE X.K sa)) (hb : PE X b (tE X.K sb)) (hs : PlainIx b) : PE X (.Subscript a b pos) (tE X.K (c_idx f sa sb)) :=
  PE.imp (pe_ix hr ha hb hs) fun _ _ _ h => tOp_of h
/-- a slice's part -/
abbrev SO := En → (Option Int → En → Prop) → Prop
def tO (K : PySem.W.Frag) (s : SO) : TO := fun σ H Q => ∃ (ρ : En) (W : AS) (rf : List Addr) (k : Option Int → En → Prop), EnvR K rf σ H W ρ ∧ s ρ k ∧ ∀ x ρ' H' W', k x ρ' → Go K rf σ H W ρ σ H' W' ρ' → Q x H'
def o_no : SO := fun ρ k => k none ρ
def asI (k : Option Int → En → Prop) : Vl → En → Prop := fun x ρ => match x with
  | .dat (.int i) => k (some i) ρ
  | _ => False
theorem asI_of {k : Option Int → En → Prop} {x : Vl} {ρ : En} (h : asI k x ρ) : ∃ b, x = .dat (.int b) ∧ k (some b) ρ := by
  simp only [asI] at h
  split at h
  · exact ⟨_, rfl, h⟩
  · exact h.elim
def o_some (s : SE) : SO := fun ρ k => s ρ (asI k)
theorem PO.imp {e : Option Expr} {t t' : TO} (h : PO X e t) (i : ∀ σ H Q, t' σ H Q → t σ H Q) : PO X e t' := ⟨fun pins s σ H Q I q => h.run pins s σ H Q I (i σ H Q q)⟩
theorem e_ono : PO X none (tO X.K o_no) := PO.imp po_none fun σ H Q ⟨ρ, W, rf, k, E, h, q⟩ => q _ _ _ _ h (Go.refl E)
theorem e_osome {s : SE} (h : PE X e (tE X.K s)) : PO X (some e) (tO X.K (o_some s)) :=
  PO.imp (po_some h) fun σ H Q ⟨ρ, W, rf, k, E, h, q⟩ => ⟨ρ, W, rf, _, E, h, fun x ρ1 v H1 W1 h1 G1 r1 => by
    obtain ⟨b, rfl, kb⟩ := asI_of h1
    have rt : Rp X.K H1 W1 v (.int b) := r1
    cases rt
    exact ⟨b, rfl, q _ _ _ _ kb G1⟩⟩
abbrev FS := Dat → Option Int → Option Int → (Vl → Prop) → Prop
def c_slice (f : FS) (a : SE) (l u : SO) : SE := fun ρ k => a ρ fun x ρ1 => l ρ1 fun lo ρ2 => u ρ2 fun hi ρ3 => rdK ρ3 x fun d => f d lo hi fun z => k z ρ3
def rS (K : PySem.W.Frag) (f : FS) : V → Option Int → Option Int → Hp → VK → Prop := fun x lo hi H Q => ∃ (W : AS) (d : Dat) (P : Vl → Prop), (∀ a, W a → H a ≠ none) ∧ Rr K H W x d ∧ f d lo hi P ∧ ∀ z v H', P z → PRes K H W v H' z → Q v H'
theorem e_slice {f : FS} {lo hi : Option Expr} {sl su : SO} {p2 : Pos} (hr : SlR X (rS X.K f)) (he : PE X e (tE X.K sa)) (hl : PO X lo (tO X.K sl)) (hu : PO X hi (tO X.K su)) : PE X (.Subscript e (.Slice lo hi none p2) pos) (tE X.K (c_slice f sa sl su)) :=
  PE.imp (pe_slice hr he hl hu) fun σ H Q ⟨ρ, W, rf, k, E, h, q⟩ => ⟨ρ, W, rf, _, E, h, fun x ρ1 v H1 W1 h1 G1 r1 =>
    ⟨ρ1, W1, rf, _, G1.env, h1, fun l ρ2 H2 W2 h2 G2 => ⟨ρ2, W2, rf, _, G2.env, h2, fun u ρ3 H3 W3 h3 G3 => by
      obtain ⟨d, ed, h3⟩ := rdK_of h3
      have G23 := G2.trans G1.env G3
      have G := G1.trans E G23
      exact ⟨W3, d, _, G.env.dom, (r1.go G1.env G23).rd G.env ed, h3, fun z w H4 kz pr => let ⟨W5, G5, r5⟩ := pres_go E G pr; q _ _ _ _ _ kz G5 r5⟩⟩⟩⟩
end
end DL

/-! text E3 -/
set_option Elab.async false
set_option linter.all false
set_option maxRecDepth 100000
set_option maxHeartbeats 1000000
namespace DL
open PySem PySem.Spec PyProof.Rows L2 PySem.SeqAt
open PySem.W (alike alikeAll dataLt dataLe rcLt_alike AllAlike Sortable)

/-! ### operators on plain data -/
def bAdd : F2
  | .int i, .int j, k => k (.dat (.int (i + j)))
  | .str x, .str y, k => x.length + y.length ≤ 16777216 ∧ k (.dat (.str (x ++ y)))
  | .tuple xs, .tuple ys, k => xs.length + ys.length ≤ 16777216 ∧ k (.dat (.tuple (xs ++ ys)))
  | .list xs, .list ys, k => xs.length + ys.length ≤ 16777216 ∧ k (.new (.lst (xs ++ ys)))
  | _, _, _ => False
def bSub : F2
  | .int i, .int j, k => k (.dat (.int (i - j)))
  | _, _, _ => False
def bMul : F2
  | .int i, .int j, k => CMul i j ∧ k (.dat (.int (i * j)))
  | .str x, .int n, k => (0 ≤ n ∧ n ≤ 1000000 ∧ x.length ≤ 1000000 ∧ x.length * n.toNat ≤ 16777216) ∧ k (.dat (.str (Txt.mul x n)))
  | .list xs, .int n, k => (0 ≤ n ∧ n ≤ 1000000 ∧ xs.length * n.toNat ≤ 16777216) ∧ k (.new (.lst (List.replicate n.toNat xs).flatten))
  | _, _, _ => False
def bDiv : F2
  | .int i, .int j, k => (0 < j ∧ j < 1073741824) ∧ k (.dat (.int (i / j)))
  | _, _, _ => False
def bMod : F2
  | .int i, .int j, k => 0 < j ∧ k (.dat (.int (i % j)))
  | _, _, _ => False
def bShl : F2
  | .int i, .int j, k => CPow i j ∧ k (.dat (.int (i * 2 ^ j.toNat)))
  | _, _, _ => False
def bPow : F2
  | .int i, .int j, k => CPow i j ∧ k (.dat (.int (i ^ j.toNat)))
  | _, _, _ => False
def bXor : F2
  | .int i, .int j, k => k (.dat (.int (Builtin.bitXor i j)))
  | _, _, _ => False
section
variable {X : Cx}
theorem rB_I {K : PySem.W.Frag} {f : F2} {g : Int → Int → Int} {C : Int → Int → Prop} {x y : V} {H : Hp} {Q : VK} (hf : ∀ d e P, f d e P → ∃ i j, d = .int i ∧ e = .int j ∧ C i j ∧ P (.dat (.int (g i j)))) (h : rB K f x y H Q) : rI C (fun i j => .int (g i j)) x y H Q := by
  obtain ⟨W, d, e, P, dm, r1, r2, h, q⟩ := h
  obtain ⟨i, j, rfl, rfl, c, hp⟩ := hf d e P h
  cases r1.int
  cases r2.int
  exact ⟨i, j, rfl, rfl, c, q _ _ _ hp ⟨Same.refl _, .int _⟩⟩
theorem OpR.imp {f : Value → Value → Sem Value} {r r' : R2} (h : OpR X f r) (i : ∀ x y H Q, r' x y H Q → r x y H Q) : OpR X f r' := fun pins s σ H x y v u Q I rx ry q => h pins s σ H x y v u Q I rx ry (i _ _ _ _ q)
theorem o_sub : OpR X (binaryOp .Sub) (rB X.K bSub) := OpR.imp op_sub fun x y H Q h => by
  obtain ⟨i, j, h1, h2, _, h3⟩ := rB_I (g := fun i j => i - j) (C := fun _ _ => True) (fun d e P h => by
    cases d <;> cases e <;> first | exact False.elim h | exact ⟨_, _, rfl, rfl, trivial, h⟩) h
  exact ⟨i, j, h1, h2, h3⟩
theorem o_xor : OpR X (binaryOp .BitXor) (rB X.K bXor) := OpR.imp op_xor fun x y H Q h => by
  obtain ⟨i, j, h1, h2, _, h3⟩ := rB_I (g := fun i j => Builtin.bitXor i j) (C := fun _ _ => True) (fun d e P h => by
    cases d <;> cases e <;> first | exact False.elim h | exact ⟨_, _, rfl, rfl, trivial, h⟩) h
  exact ⟨i, j, h1, h2, h3⟩
theorem o_div : OpR X (binaryOp .FloorDiv) (rB X.K bDiv) := OpR.imp op_fdiv fun x y H Q h => rB_I (fun d e P h => by
    cases d <;> cases e <;> first | exact False.elim h | exact ⟨_, _, rfl, rfl, h.1, h.2⟩) h
theorem o_mod : OpR X (binaryOp .Mod) (rB X.K bMod) := OpR.imp op_mod fun x y H Q h => rB_I (fun d e P h => by
    cases d <;> cases e <;> first | exact False.elim h | exact ⟨_, _, rfl, rfl, h.1, h.2⟩) h
theorem o_shl : OpR X (binaryOp .LShift) (rB X.K bShl) := OpR.imp op_shl fun x y H Q h => rB_I (fun d e P h => by
    cases d <;> cases e <;> first | exact False.elim h | exact ⟨_, _, rfl, rfl, h.1, h.2⟩) h
theorem o_pow : OpR X (binaryOp .Pow) (rB X.K bPow) := OpR.imp op_pow fun x y H Q h => rB_I (fun d e P h => by
    cases d <;> cases e <;> first | exact False.elim h | exact ⟨_, _, rfl, rfl, h.1, h.2⟩) h
theorem RpAll.nil_iff {K : PySem.W.Frag} {H : Hp} {W : AS} {vs : List V} {ds : List Dat} (r : RpAll K H W vs ds) : vs = [] ↔ ds = [] := by
  cases r with
  | nil => simp
  | cons _ _ => simp
theorem PT'.of {K : PySem.W.Frag} {H : Hp} {W : AS} {a : Addr} {xs : List V} (h : H a = some (.tup xs)) (n : ¬ W a) : PT' K H W a xs := .inl ⟨n, .inl h⟩
theorem Rr.rp {K : PySem.W.Frag} {H : Hp} {W : AS} {v : V} {ds : List Dat} (r : Rr K H W v (.tuple ds)) : Rp K H W v (.tuple ds) := by
  cases r with
  | plain r => exact r
theorem o_add : OpR X (binaryOp .Add) (rB X.K bAdd) := by
  refine OpR.imp (op_add.or (op_add_str.or (op_catA.or op_cat))) fun x y H Q ⟨W, d, e, P, dm, r1, r2, h, q⟩ => ?_
  have line := sizeLine_eq
  cases d <;> cases e <;> first | exact False.elim h | skip
  · cases r1.int
    cases r2.int
    exact .inl ⟨_, _, rfl, rfl, q _ _ _ h ⟨Same.refl _, .int _⟩⟩
  · cases r1.str
    cases r2.str
    exact .inr (.inl ⟨_, _, rfl, rfl, by rw [line]; exact h.1, q _ _ _ h.2 ⟨Same.refl _, .str _⟩⟩)
  · obtain ⟨a, xs, rfl, h1, a1⟩ := r1.list
    obtain ⟨b, ys, rfl, h2, a2⟩ := r2.list
    exact .inr (.inr (.inr ⟨a, b, xs, ys, rfl, rfl, h1, h2, by rw [line, a1.length, a2.length]; exact h.1, fun p hp => q _ _ _ h.2 (pres_lst hp (a1.append a2))⟩))
  · obtain ⟨a, xs, rfl, h1, a1⟩ := r1.tuple
    obtain ⟨b, ys, rfl, h2, a2⟩ := r2.tuple
    refine .inr (.inr (.inl ⟨a, b, xs, ys, rfl, rfl, h1, h2, by rw [line, a1.length, a2.length]; exact h.1, fun e => ?_, fun n e => ?_, fun n1 n2 p hp => q _ _ _ h.2 (pres_tup dm hp (a1.append a2))⟩))
    · have e' := a1.nil_iff.mp e
      refine q _ _ _ h.2 ⟨Same.refl _, ?_⟩
      rw [e', List.nil_append]
      exact r2.rp
    · have e' := a2.nil_iff.mp e
      refine q _ _ _ h.2 ⟨Same.refl _, ?_⟩
      rw [e', List.append_nil]
      exact r1.rp
theorem op_mul_str : OpR X (binaryOp .Mult) (fun x y H Q => ∃ z n, x = .str z ∧ y = .int n ∧ MulOk z n ∧ Q (.str (Txt.mul z n)) H) := by
  intro pins s σ H x y v u Q I rx ry h
  obtain ⟨z, n, rfl, rfl, hz, q⟩ := h
  obtain ⟨t, rfl⟩ := rx
  obtain ⟨t', rfl⟩ := ry
  exact SB.mul hz fun t'' k => ⟨.str _, H, I.tok _, ⟨_, rfl⟩, q⟩
theorem mulOk_of {x : Str} {n : Int} (h0 : 0 ≤ n) (h1 : n ≤ 1000000) (h2 : x.length ≤ 1000000) (h3 : x.length * n.toNat ≤ 16777216) : MulOk x n := by
  refine ⟨?_, fun hn _ => ?_, fun _ _ => ?_⟩
  · rw [Bool.or_eq_false_iff]
    exact ⟨decide_eq_false (by omega), decide_eq_false (by omega)⟩
  · have h4 : (9223372036854 : Int) ≤ (2 ^ 63 - 1) / n := by
      refine Int.le_ediv_of_mul_le (by omega) ?_
      omega
    omega
  · unfold Builtin.Str.tooLong
    rw [sizeLine_eq]
    exact decide_eq_false (by omega)
theorem RpAll.rep {K : PySem.W.Frag} {H : Hp} {W : AS} {vs : List V} {ds : List Dat} (r : RpAll K H W vs ds) : ∀ m : Nat, RpAll K H W (List.replicate m vs).flatten (List.replicate m ds).flatten
  | 0 => .nil
  | m + 1 => by rw [List.replicate_succ, List.replicate_succ, List.flatten_cons, List.flatten_cons]; exact r.append (RpAll.rep r m)
theorem o_mul : OpR X (binaryOp .Mult) (rB X.K bMul) := by
  refine OpR.imp (op_mul.or (op_mul_str.or op_rep)) fun x y H Q ⟨W, d, e, P, dm, r1, r2, h, q⟩ => ?_
  have line := sizeLine_eq
  cases d <;> cases e <;> first | exact False.elim h | skip
  · cases r1.int
    cases r2.int
    exact .inl ⟨_, _, rfl, rfl, h.1, q _ _ _ h.2 ⟨Same.refl _, .int _⟩⟩
  · cases r1.str
    cases r2.int
    exact .inr (.inl ⟨_, _, rfl, rfl, mulOk_of h.1.1 h.1.2.1 h.1.2.2.1 h.1.2.2.2, q _ _ _ h.2 ⟨Same.refl _, .str _⟩⟩)
  · obtain ⟨a, xs, rfl, h1, a1⟩ := r1.list
    cases r2.int
    obtain ⟨⟨b0, b1, b2⟩, hp⟩ := h
    exact .inr (.inr ⟨a, _, xs, rfl, rfl, h1, by omega, by omega, by rw [line, a1.length]; exact b2, fun p hn => q _ _ _ hp (pres_lst hn (a1.rep _))⟩)
end

/-! ### comparisons -/
/-- data that == reads through -/
abbrev Shp (d : Dat) : Prop := SeqAt.shaped d = true
def bEq : B2
  | .int i, .int j, k => k (decide (i = j))
  | .str i, .str j, k => k (decide (i = j))
  | .bool i, .bool j, k => k (decide (i = j))
  | .none, .none, k => k true
  | d, e, k => (Shp d ∧ Shp e) ∧ k (PyData.eqv d e)
def bNe : B2 := fun d e k => bEq d e fun b => k (!b)
def nIsN : Dat → Bool
  | .none => true
  | _ => false
def bIs : B2
  | .bool i, .bool j, k => k (decide (i = j))
  | d, .none, k => k (nIsN d)
  | _, _, _ => False
def bIsNot : B2 := fun d e k => bIs d e fun b => k (!b)
def bLt : B2
  | .int i, .int j, k => k (decide (i < j))
  | .str i, .str j, k => k (decide (i.cps.toList < j.cps.toList))
  | .tuple xs, .tuple ys, k => (alikeAll xs ys = true ∧ Shp (.tuple xs) ∧ Shp (.tuple ys)) ∧ k (dataLt (.tuple xs) (.tuple ys))
  | _, _, _ => False
def bLe : B2
  | .int i, .int j, k => k (decide (i ≤ j))
  | _, _, _ => False
def bGt : B2
  | .int i, .int j, k => k (decide (j < i))
  | _, _, _ => False
def bGe : B2
  | .int i, .int j, k => k (decide (j ≤ i))
  | _, _, _ => False
def oneSign (x : Str) : Option Nat := match x.cps.toList with
  | [c] => some c
  | _ => none
def bIn : B2
  | .str x, .str z, k => ∃ c, oneSign x = some c ∧ k (decide (c ∈ z.cps.toList))
  | d, .list ds, k => (Shp d ∧ Shp (.list ds)) ∧ k (ds.any fun z => PyData.eqv z d)
  | d, .tuple ds, k => (Shp d ∧ Shp (.tuple ds)) ∧ k (ds.any fun z => PyData.eqv z d)
  | _, _, _ => False
def bNotIn : B2 := fun d e k => bIn d e fun b => k (!b)
section
variable {X : Cx}
theorem pres_b {K : PySem.W.Frag} {H : Hp} {W : AS} (b : Bool) : PRes K H W (.bl b) H (.dat (.bool b)) := ⟨Same.refl _, .bl b⟩
theorem eqv_i {i j : Int} : PyData.eqv (.int i) (.int j) = decide (i = j) := by simp [PyData.eqv, Bool.beq_eq_decide_eq]
theorem eqv_s {i j : Str} : PyData.eqv (.str i) (.str j) = decide (i = j) := by simp [PyData.eqv, Bool.beq_eq_decide_eq]
theorem eqv_b {i j : Bool} : PyData.eqv (.bool i) (.bool j) = decide (i = j) := by cases i <;> cases j <;> simp [PyData.eqv]
theorem bEq_of {d e : Dat} {P : Bool → Prop} (h : bEq d e P) : ((∃ i j, d = .str i ∧ e = .str j) ∨ (Shp d ∧ Shp e)) ∧ P (PyData.eqv d e) := by
  unfold bEq at h
  split at h
  · refine ⟨.inr ⟨rfl, rfl⟩, ?_⟩; rw [eqv_i]; exact h
  · refine ⟨.inl ⟨_, _, rfl, rfl⟩, ?_⟩; rw [eqv_s]; exact h
  · refine ⟨.inr ⟨rfl, rfl⟩, ?_⟩; rw [eqv_b]; exact h
  · refine ⟨.inr ⟨by decide, by decide⟩, ?_⟩; simpa [PyData.eqv] using h
  · exact ⟨.inr h.1, h.2⟩
theorem o_eq (hu : X.A.units + 64 < cLine) : OpR X (compareOp .Eq) (rB X.K (bF bEq)) := by
  refine OpR.imp ((op_eqD hu).or op_eq) fun x y H Q ⟨W, d, e, P, dm, r1, r2, h, q⟩ => ?_
  obtain ⟨c, h⟩ := bEq_of h
  rcases c with ⟨i, j, rfl, rfl⟩ | ⟨c1, c2⟩
  · cases r1.str
    cases r2.str
    rw [eqv_s] at h
    refine .inr ⟨rfl, ?_⟩
    have e1 : decide (V.str i = V.str j) = decide (i = j) := by
      rw [Bool.eq_iff_iff]
      simp
    rw [e1]
    exact q _ _ _ h (pres_b _)
  · exact .inl ⟨d, e, r1.dp (SeqAt.canLay_of_shaped c1), r2.dp (SeqAt.canLay_of_shaped c2), c1, c2, q _ _ _ h (pres_b _)⟩
theorem o_ne (hu : X.A.units + 64 < cLine) : OpR X (compareOp .NotEq) (rB X.K (bF bNe)) := by
  refine OpR.imp ((op_neD hu).or op_ne) fun x y H Q ⟨W, d, e, P, dm, r1, r2, h, q⟩ => ?_
  obtain ⟨c, h⟩ := bEq_of h
  rcases c with ⟨i, j, rfl, rfl⟩ | ⟨c1, c2⟩
  · cases r1.str
    cases r2.str
    rw [eqv_s] at h
    refine .inr ⟨rfl, ?_⟩
    have e1 : decide (V.str i = V.str j) = decide (i = j) := by
      rw [Bool.eq_iff_iff]
      simp
    rw [e1]
    exact q _ _ _ h (pres_b _)
  · exact .inl ⟨d, e, r1.dp (SeqAt.canLay_of_shaped c1), r2.dp (SeqAt.canLay_of_shaped c2), c1, c2, q _ _ _ h (pres_b _)⟩
theorem Rr.isN {K : PySem.W.Frag} {H : Hp} {W : AS} {v : V} {d : Dat} (r : Rr K H W v d) : decide (v = .non) = nIsN d := by
  cases r with
  | plain r => cases r <;> rfl
  | lst _ _ => rfl
theorem bIs_of {d e : Dat} {P : Bool → Prop} (h : bIs d e P) : (∃ i j, d = .bool i ∧ e = .bool j ∧ P (decide (i = j))) ∨ (e = .none ∧ P (nIsN d)) := by
  unfold bIs at h
  split at h
  · exact .inl ⟨_, _, rfl, rfl, h⟩
  · exact .inr ⟨rfl, h⟩
  · exact h.elim
theorem o_is : OpR X (compareOp .Is) (rB X.K (bF bIs)) := by
  refine OpR.imp (op_isBl.or op_isN) fun x y H Q ⟨W, d, e, P, dm, r1, r2, h, q⟩ => ?_
  rcases bIs_of h with ⟨i, j, rfl, rfl, h'⟩ | ⟨rfl, h'⟩
  · cases r1.bl
    cases r2.bl
    exact .inl ⟨i, j, rfl, rfl, q _ _ _ h' (pres_b _)⟩
  · cases r2.non
    refine .inr ⟨rfl, ?_⟩
    rw [r1.isN]
    exact q _ _ _ h' (pres_b _)
theorem o_isnot : OpR X (compareOp .IsNot) (rB X.K (bF bIsNot)) := by
  refine OpR.imp (op_notBl.or op_notN) fun x y H Q ⟨W, d, e, P, dm, r1, r2, h, q⟩ => ?_
  rcases bIs_of h with ⟨i, j, rfl, rfl, h'⟩ | ⟨rfl, h'⟩
  · cases r1.bl
    cases r2.bl
    exact .inl ⟨i, j, rfl, rfl, q _ _ _ h' (pres_b _)⟩
  · cases r2.non
    refine .inr ⟨rfl, ?_⟩
    rw [r1.isN]
    exact q _ _ _ h' (pres_b _)
theorem op_ltD (hu : X.A.units + 64 < cLine) : OpR X (compareOp .Lt) (fun x y H Q => ∃ d e, Dp X.K H x d ∧ Dp X.K H y e ∧ Shp d ∧ Shp e ∧ alike d e = true ∧ d ≠ .none ∧ Q (.bl (dataLt d e)) H) := by
  intro pins s σ H x y v u Q I rx ry h
  obtain ⟨d, e, hd, he, sd, se, al, nn, q⟩ := h
  obtain ⟨as, r1⟩ := Dp.reads I d x v hd rx
  obtain ⟨bs, r2⟩ := Dp.reads I e y u he ry
  exact rcLt_alike d e X.A s v u as bs r1 r2 al nn (SeqAt.room_of_shaped sd hu) X.prog X.w _ _ ⟨.bl _, H, I, rfl, q⟩
theorem o_lt (hu : X.A.units + 64 < cLine) : OpR X (compareOp .Lt) (rB X.K (bF bLt)) := by
  refine OpR.imp (op_lt.or (op_lt_str.or (op_ltD hu))) fun x y H Q ⟨W, d, e, P, dm, r1, r2, h, q⟩ => ?_
  cases d <;> cases e <;> first | exact False.elim h | skip
  · cases r1.int
    cases r2.int
    exact .inl ⟨_, _, rfl, rfl, q _ _ _ h (pres_b _)⟩
  · cases r1.str
    cases r2.str
    exact .inr (.inl ⟨_, _, rfl, rfl, q _ _ _ h (pres_b _)⟩)
  · obtain ⟨⟨al, s1, s2⟩, h⟩ := (show (_ ∧ _ ∧ _) ∧ _ from h)
    exact .inr (.inr ⟨_, _, r1.dp (SeqAt.canLay_of_shaped s1), r2.dp (SeqAt.canLay_of_shaped s2), s1, s2, by simpa [alike] using al, (fun z => nomatch z), q _ _ _ h (pres_b _)⟩)
theorem o_le : OpR X (compareOp .LtE) (rB X.K (bF bLe)) := by
  refine OpR.imp op_le fun x y H Q ⟨W, d, e, P, dm, r1, r2, h, q⟩ => ?_
  cases d <;> cases e <;> first | exact False.elim h | skip
  cases r1.int
  cases r2.int
  exact ⟨_, _, rfl, rfl, q _ _ _ h (pres_b _)⟩
theorem o_gt : OpR X (compareOp .Gt) (rB X.K (bF bGt)) := by
  refine OpR.imp op_gt fun x y H Q ⟨W, d, e, P, dm, r1, r2, h, q⟩ => ?_
  cases d <;> cases e <;> first | exact False.elim h | skip
  cases r1.int
  cases r2.int
  exact ⟨_, _, rfl, rfl, q _ _ _ h (pres_b _)⟩
theorem o_ge : OpR X (compareOp .GtE) (rB X.K (bF bGe)) := by
  refine OpR.imp op_ge fun x y H Q ⟨W, d, e, P, dm, r1, r2, h, q⟩ => ?_
  cases d <;> cases e <;> first | exact False.elim h | skip
  cases r1.int
  cases r2.int
  exact ⟨_, _, rfl, rfl, q _ _ _ h (pres_b _)⟩
theorem oneSign_of {x : Str} {c : Nat} (h : oneSign x = some c) : x = ⟨#[c]⟩ := by
  unfold oneSign at h
  split at h
  · rename_i c' e
    cases h
    obtain ⟨cps⟩ := x
    have e' : cps.toList = [c] := e
    have : cps = #[c] := by
      apply Array.toList_inj.mp
      rw [e']
    rw [this]
  · cases h
theorem op_inT (hu : X.A.units + 65 < cLine) : OpR X (compareOp .In) (fun x y H Q => ∃ d ds, Dp X.K H x d ∧ Dp X.K H y (.tuple ds) ∧ SeqAt.shaped d = true ∧ SeqAt.shaped (.tuple ds) = true ∧ Q (.bl (ds.any fun z => PyData.eqv z d)) H) := by
  intro pins s σ H x y v u Q I rx ry h
  obtain ⟨d, ds, hd, he, sd, se, q⟩ := h
  obtain ⟨as, r1⟩ := Dp.reads I d x v hd rx
  obtain ⟨bs, r2⟩ := Dp.reads I (.tuple ds) y u he ry
  exact SeqAt.in_tuple_reads r2 r1 (SeqAt.canLay_of_shaped se) (SeqAt.canLay_of_shaped sd) (room_in_shaped sd hu) ⟨.bl _, H, I, rfl, q⟩
theorem op_notInT (hu : X.A.units + 65 < cLine) : OpR X (compareOp .NotIn) (fun x y H Q => ∃ d ds, Dp X.K H x d ∧ Dp X.K H y (.tuple ds) ∧ SeqAt.shaped d = true ∧ SeqAt.shaped (.tuple ds) = true ∧ Q (.bl (!ds.any fun z => PyData.eqv z d)) H) := by
  intro pins s σ H x y v u Q I rx ry h
  obtain ⟨d, ds, hd, he, sd, se, q⟩ := h
  obtain ⟨as, r1⟩ := Dp.reads I d x v hd rx
  obtain ⟨bs, r2⟩ := Dp.reads I (.tuple ds) y u he ry
  exact SeqAt.notIn_tuple_reads r2 r1 (SeqAt.canLay_of_shaped se) (SeqAt.canLay_of_shaped sd) (room_in_shaped sd hu) ⟨.bl _, H, I, rfl, q⟩
theorem bIn_of {d e : Dat} {P : Bool → Prop} (h : bIn d e P) : (∃ c z, d = .str ⟨#[c]⟩ ∧ e = .str z ∧ P (decide (c ∈ z.cps.toList))) ∨ (∃ ds, e = .list ds ∧ (Shp d ∧ Shp e) ∧ P (ds.any fun z => PyData.eqv z d)) ∨ (∃ ds, e = .tuple ds ∧ (Shp d ∧ Shp e) ∧ P (ds.any fun z => PyData.eqv z d)) := by
  unfold bIn at h
  split at h
  · obtain ⟨c, e, h⟩ := h
    exact .inl ⟨c, _, by rw [oneSign_of e], rfl, h⟩
  · exact .inr (.inl ⟨_, rfl, h.1, h.2⟩)
  · exact .inr (.inr ⟨_, rfl, h.1, h.2⟩)
  · exact h.elim
theorem o_in (hu : X.A.units + 65 < cLine) : OpR X (compareOp .In) (rB X.K (bF bIn)) := by
  refine OpR.imp (op_in_sign.or ((op_inD hu).or (op_inT hu))) fun x y H Q ⟨W, d, e, P, dm, r1, r2, h, q⟩ => ?_
  rcases bIn_of h with ⟨c, z, rfl, rfl, h'⟩ | ⟨ds, rfl, ⟨s1, s2⟩, h'⟩ | ⟨ds, rfl, ⟨s1, s2⟩, h'⟩
  · cases r1.str
    cases r2.str
    exact .inl ⟨_, _, rfl, rfl, q _ _ _ h' (pres_b _)⟩
  · exact .inr (.inl ⟨d, ds, r1.dp (SeqAt.canLay_of_shaped s1), r2.dp (SeqAt.canLay_of_shaped s2), s1, s2, q _ _ _ h' (pres_b _)⟩)
  · exact .inr (.inr ⟨d, ds, r1.dp (SeqAt.canLay_of_shaped s1), r2.dp (SeqAt.canLay_of_shaped s2), s1, s2, q _ _ _ h' (pres_b _)⟩)
theorem o_notin (hu : X.A.units + 65 < cLine) : OpR X (compareOp .NotIn) (rB X.K (bF bNotIn)) := by
  refine OpR.imp (op_notIn_sign.or ((op_notInD hu).or (op_notInT hu))) fun x y H Q ⟨W, d, e, P, dm, r1, r2, h, q⟩ => ?_
  rcases bIn_of h with ⟨c, z, rfl, rfl, h'⟩ | ⟨ds, rfl, ⟨s1, s2⟩, h'⟩ | ⟨ds, rfl, ⟨s1, s2⟩, h'⟩
  · cases r1.str
    cases r2.str
    exact .inl ⟨_, _, rfl, rfl, q _ _ _ h' (pres_b _)⟩
  · exact .inr (.inl ⟨d, ds, r1.dp (SeqAt.canLay_of_shaped s1), r2.dp (SeqAt.canLay_of_shaped s2), s1, s2, q _ _ _ h' (pres_b _)⟩)
  · exact .inr (.inr ⟨d, ds, r1.dp (SeqAt.canLay_of_shaped s1), r2.dp (SeqAt.canLay_of_shaped s2), s1, s2, q _ _ _ h' (pres_b _)⟩)
end

/-! ### a[i], a[l:u] -/
def fIdx : F2
  | .list ds, .int i, k => ∃ d, atI ds i = some d ∧ k (.dat d)
  | .tuple ds, .int i, k => ∃ d, atI ds i = some d ∧ k (.dat d)
  | .str z, .int i, k => ∃ c, (z.length ≤ 16777216 ∧ atI z.cps.toList i = some c) ∧ k (.dat (.str ⟨#[c]⟩))
  | _, _, _ => False
def cut {α : Type} (xs : List α) (lo hi : Option Int) : List α := (xs.drop (HT.sIx xs.length 0 lo)).take (HT.sIx xs.length xs.length hi - HT.sIx xs.length 0 lo)
def fSl : FS
  | .list ds, lo, hi, k => k (.new (.lst (cut ds lo hi)))
  | .tuple ds, lo, hi, k => k (.dat (.tuple (cut ds lo hi)))
  | .str z, lo, hi, k => z.length ≤ 16777216 ∧ k (.dat (.str (cutS z lo hi)))
  | _, _, _, _ => False
theorem cut_whole {α : Type} {xs : List α} {lo hi : Option Int} (e1 : HT.sIx xs.length 0 lo = 0) (e2 : HT.sIx xs.length xs.length hi = xs.length) : cut xs lo hi = xs := by
  unfold DL.cut
  rw [e1, e2, List.drop_zero, Nat.sub_zero, List.take_length]
section
variable {X : Cx}
theorem RpAll.atI {K : PySem.W.Frag} {H : Hp} {W : AS} {vs : List V} {ds : List Dat} {i : Int} {d : Dat} (r : RpAll K H W vs ds) (h : atI ds i = some d) : ∃ v, L2.atI vs i = some v ∧ Rp K H W v d := by
  unfold L2.atI at h ⊢
  rw [r.length]
  cases e : ixN ds.length i with
  | none => rw [e] at h; cases h
  | some j => rw [e] at h; exact r.get h
theorem o_idx : IxR X (rB X.K fIdx) := by
  have imp : ∀ {r r' : R2}, IxR X r → (∀ x y H Q, r' x y H Q → r x y H Q) → IxR X r' := fun h i value slice pins s σ H x y v u Q I rx ry q hs => h value slice pins s σ H x y v u Q I rx ry (i _ _ _ _ q) hs
  refine imp ix_seq fun x y H Q ⟨W, d, e, P, dm, r1, r2, h, q⟩ => ?_
  cases d <;> cases e <;> first | exact False.elim h | skip
  · cases r1.str
    cases r2.int
    obtain ⟨c, ⟨hz, hc⟩, h⟩ := h
    exact .inr (.inr ⟨_, _, c, rfl, rfl, by rw [sizeLine_eq]; exact hz, hc, q _ _ _ h ⟨Same.refl _, .str _⟩⟩)
  · obtain ⟨a, xs, rfl, h1, a1⟩ := r1.list
    cases r2.int
    obtain ⟨d, ed, h⟩ := h
    obtain ⟨v, ev, rv⟩ := a1.atI ed
    exact .inl ⟨a, xs, _, v, rfl, rfl, SqL.of h1, ev, q _ _ _ h ⟨Same.refl _, rv⟩⟩
  · obtain ⟨a, xs, rfl, h1, a1⟩ := r1.tuple
    cases r2.int
    obtain ⟨d, ed, h⟩ := h
    obtain ⟨v, ev, rv⟩ := a1.atI ed
    exact .inr (.inl ⟨a, xs, _, v, rfl, rfl, h1, ev, q _ _ _ h ⟨Same.refl _, rv⟩⟩)
theorem RpAll.cut {K : PySem.W.Frag} {H : Hp} {W : AS} {vs : List V} {ds : List Dat} (r : RpAll K H W vs ds) (lo hi : Option Int) : RpAll K H W (cutV vs lo hi) (cut ds lo hi) := by
  unfold cutV DL.cut
  rw [r.length]
  exact (r.drop _).take _
theorem SlR.imp {r r' : V → Option Int → Option Int → Hp → VK → Prop} (h : SlR X r) (i : ∀ x lo hi H Q, r' x lo hi H Q → r x lo hi H Q) : SlR X r' := fun pins s σ H x v vl vu lo hi sl Q I rx hs pl pu q => h pins s σ H x v vl vu lo hi sl Q I rx hs pl pu (i _ _ _ _ _ q)
theorem o_sl : SlR X (rS X.K fSl) := by
  refine SlR.imp (sl_list.or (sl_tupA.or sl_str)) fun x lo hi H Q ⟨W, d, P, dm, r1, h, q⟩ => ?_
  cases d <;> first | exact False.elim h | skip
  · cases r1.str
    exact .inr (.inr ⟨_, rfl, by rw [sizeLine_eq]; exact h.1, q _ _ _ h.2 ⟨Same.refl _, .str _⟩⟩)
  · obtain ⟨a, xs, rfl, h1, a1⟩ := r1.list
    exact .inl ⟨a, xs, rfl, SqL.of h1, fun p hp => q _ _ _ h (pres_lst hp (a1.cut lo hi))⟩
  · obtain ⟨a, xs, rfl, h1, a1⟩ := r1.tuple
    refine .inr (.inl ⟨a, xs, rfl, h1, fun ⟨e1, e2⟩ => ?_, fun _ p hp => q _ _ _ h (pres_tup dm hp (a1.cut lo hi))⟩)
    refine q _ _ _ h ⟨Same.refl _, ?_⟩
    rw [cut_whole (by rw [← a1.length]; exact e1) (by rw [← a1.length]; exact e2)]
    exact r1.rp
end
end DL

/-! text E4 -/
set_option Elab.async false
set_option linter.all false
set_option maxRecDepth 100000
set_option maxHeartbeats 1000000
namespace DL
open PySem PySem.Spec PyProof.Rows L2 PySem.SeqAt
open PySem.W (alike alikeAll dataLt dataLe rcLt_alike AllAlike Sortable EachIs)

/-! ### builtins -/
def gLen : FN
  | [.list ds], k => k (.dat (.int ds.length))
  | [.tuple ds], k => k (.dat (.int ds.length))
  | [.str z], k => z.length ≤ 16777216 ∧ k (.dat (.int z.length))
  | _, _ => False
def gInt : FN
  | [.int i], k => k (.dat (.int i))
  | [.bool b], k => k (.dat (.int (if b then 1 else 0)))
  | _, _ => False
def gStr : FN
  | [.int i], k => i.natAbs.log2 < 1920 ∧ k (.dat (.str (toString i)))
  | _, _ => False
def gList : FN
  | [.list ds], k => k (.new (.lst ds))
  | [.tuple ds], k => k (.new (.lst ds))
  | [.dict [(.none, .list ds)]], k => k (.new (.lst ds))
  | _, _ => False
def gTuple : FN
  | [.list ds], k => k (.dat (.tuple ds))
  | [.tuple ds], k => k (.dat (.tuple ds))
  | _, _ => False
def gAll : FN
  | [.list ds], k => ∃ bs : List Bool, ds = bs.map .bool ∧ k (.dat (.bool (bs.all id)))
  | _, _ => False
def gAny : FN
  | [.list ds], k => ∃ bs : List Bool, ds = bs.map .bool ∧ k (.dat (.bool (bs.any id)))
  | _, _ => False
def gSum : FN
  | [.list ds], k => ∃ ns : List Int, ds = ns.map .int ∧ k (.dat (.int ns.sum))
  | _, _ => False
def gMax : FN
  | [.int i, .int j], k => k (.dat (.int (if j > i then j else i)))
  | [.list ds], k => ∃ ns : List Int, ds = ns.map .int ∧ 0 < ns.length ∧ ∀ m, m ∈ ns → (∀ y, y ∈ ns → y ≤ m) → k (.dat (.int m))
  | _, _ => False
def gMin : FN
  | [.int i, .int j], k => k (.dat (.int (if j < i then j else i)))
  | [.list ds], k => ∃ ns : List Int, ds = ns.map .int ∧ 0 < ns.length ∧ ∀ m, m ∈ ns → (∀ y, y ∈ ns → m ≤ y) → k (.dat (.int m))
  | _, _ => False
def gSorted : FN
  | [.list ds], k => (AllAlike ds ∧ Sortable ds ∧ ∀ d ∈ ds, d.canLay0 = true ∧ d.depth ≤ 60) ∧ k (.new (.lst (ds.mergeSort (dataLe false id))))
  | _, _ => False
section
variable {X : Cx}
theorem CallR.imp {f : Value} {r r' : List V → Hp → VK → Prop} (h : CallR X f r) (i : ∀ xs H Q, r' xs H Q → r xs H Q) : CallR X f r' := fun pins s σ H xs us Q I rx q => h pins s σ H xs us Q I rx (i _ _ _ q)
theorem rr1 {K : PySem.W.Frag} {H : Hp} {W : AS} {xs : List V} {d : Dat} (r : RrAll K H W xs [d]) : ∃ v, xs = [v] ∧ Rr K H W v d := by
  cases r with
  | cons h t => cases t; exact ⟨_, rfl, h⟩
theorem rr2 {K : PySem.W.Frag} {H : Hp} {W : AS} {xs : List V} {d e : Dat} (r : RrAll K H W xs [d, e]) : ∃ v w, xs = [v, w] ∧ Rr K H W v d ∧ Rr K H W w e := by
  cases r with
  | cons h t =>
    cases t with
    | cons h2 t => cases t; exact ⟨_, _, rfl, h, h2⟩
theorem k_len : CallR X (.builtin "len") (rC X.K gLen) := CallR.imp call_len fun xs H Q ⟨W, ds, P, dm, r, h, q⟩ => by
  unfold gLen at h
  split at h
  · obtain ⟨v, rfl, r1⟩ := rr1 r
    obtain ⟨a, ys, rfl, h1, a1⟩ := r1.list
    exact ⟨_, _, rfl, .inl ⟨ys, SqL.of h1, rfl⟩, by rw [a1.length]; exact q _ _ _ h ⟨Same.refl _, .int _⟩⟩
  · obtain ⟨v, rfl, r1⟩ := rr1 r
    obtain ⟨a, ys, rfl, h1, a1⟩ := r1.tuple
    exact ⟨_, _, rfl, .inr ⟨ys, h1, rfl⟩, by rw [a1.length]; exact q _ _ _ h ⟨Same.refl _, .int _⟩⟩
  · obtain ⟨v, rfl, r1⟩ := rr1 r
    cases r1.str
    exact ⟨_, _, rfl, ⟨by rw [sizeLine_eq]; exact h.1, rfl⟩, q _ _ _ h.2 ⟨Same.refl _, .int _⟩⟩
  · exact h.elim
theorem k_int : CallR X (.type "int") (rC X.K gInt) := CallR.imp call_int1 fun xs H Q ⟨W, ds, P, dm, r, h, q⟩ => by
  unfold gInt at h
  split at h
  · obtain ⟨v, rfl, r1⟩ := rr1 r
    cases r1.int
    exact .inl ⟨_, rfl, q _ _ _ h ⟨Same.refl _, .int _⟩⟩
  · obtain ⟨v, rfl, r1⟩ := rr1 r
    cases r1.bl
    exact .inr ⟨_, rfl, q _ _ _ h ⟨Same.refl _, .int _⟩⟩
  · exact h.elim
theorem k_str : CallR X (.type "str") (rC X.K gStr) := CallR.imp call_str_int fun xs H Q ⟨W, ds, P, dm, r, h, q⟩ => by
  unfold gStr at h
  split at h
  · obtain ⟨v, rfl, r1⟩ := rr1 r
    cases r1.int
    exact ⟨_, rfl, h.1, q _ _ _ h.2 ⟨Same.refl _, .str _⟩⟩
  · exact h.elim
theorem k_list : CallR X (.type "list") (rC X.K gList) := CallR.imp call_list_of fun xs H Q ⟨W, ds, P, dm, r, h, q⟩ => by
  unfold gList at h
  split at h
  · obtain ⟨v, rfl, r1⟩ := rr1 r
    obtain ⟨a, ys, rfl, h1, a1⟩ := r1.list
    exact ⟨_, _, rfl, .inl (SqL.of h1), fun l hl => q _ _ _ h (pres_lst hl a1)⟩
  · obtain ⟨v, rfl, r1⟩ := rr1 r
    obtain ⟨a, ys, rfl, h1, a1⟩ := r1.tuple
    exact ⟨_, _, rfl, .inr h1, fun l hl => q _ _ _ h (pres_lst hl a1)⟩
  · obtain ⟨v, rfl, r1⟩ := rr1 r
    obtain ⟨a, ys, rfl, h1, a1⟩ := r1.scr
    exact ⟨_, _, rfl, .inl h1, fun l hl => q _ _ _ h (pres_lst hl a1)⟩
  · exact h.elim
theorem k_tuple : CallR X (.type "tuple") (rC X.K gTuple) := CallR.imp call_tuple_of fun xs H Q ⟨W, ds, P, dm, r, h, q⟩ => by
  unfold gTuple at h
  split at h
  · obtain ⟨v, rfl, r1⟩ := rr1 r
    obtain ⟨a, ys, rfl, h1, a1⟩ := r1.list
    exact ⟨_, _, rfl, .inl ⟨SqL.of h1, fun l hl => q _ _ _ h (pres_tup dm hl a1)⟩⟩
  · obtain ⟨v, rfl, r1⟩ := rr1 r
    have r1' := r1.rp
    obtain ⟨a, ys, rfl, h1, a1⟩ := r1.tuple
    exact ⟨_, _, rfl, .inr ⟨h1, q _ _ _ h ⟨Same.refl _, r1'⟩⟩⟩
  · exact h.elim
theorem k_all (hc : X.calm = true) : CallR X (.builtin "all") (rC X.K gAll) := CallR.imp (cr_all hc) fun xs H Q ⟨W, ds, P, dm, r, h, q⟩ => by
  unfold gAll at h
  split at h
  · obtain ⟨v, rfl, r1⟩ := rr1 r
    obtain ⟨a, ys, rfl, h1, a1⟩ := r1.list
    obtain ⟨bs, rfl, h⟩ := h
    exact ⟨a, bs, rfl, by rw [← a1.bls]; exact SqL.of h1, q _ _ _ h (pres_b _)⟩
  · exact h.elim
theorem k_any (hc : X.calm = true) : CallR X (.builtin "any") (rC X.K gAny) := CallR.imp (cr_any hc) fun xs H Q ⟨W, ds, P, dm, r, h, q⟩ => by
  unfold gAny at h
  split at h
  · obtain ⟨v, rfl, r1⟩ := rr1 r
    obtain ⟨a, ys, rfl, h1, a1⟩ := r1.list
    obtain ⟨bs, rfl, h⟩ := h
    exact ⟨a, bs, rfl, by rw [← a1.bls]; exact SqL.of h1, q _ _ _ h (pres_b _)⟩
  · exact h.elim
theorem k_sum (hc : X.calm = true) : CallR X (.builtin "sum") (rC X.K gSum) := CallR.imp (cr_sum hc) fun xs H Q ⟨W, ds, P, dm, r, h, q⟩ => by
  unfold gSum at h
  split at h
  · obtain ⟨v, rfl, r1⟩ := rr1 r
    obtain ⟨a, ys, rfl, h1, a1⟩ := r1.list
    obtain ⟨bs, rfl, h⟩ := h
    exact ⟨a, bs, rfl, by rw [← a1.ints]; exact SqL.of h1, q _ _ _ h ⟨Same.refl _, .int _⟩⟩
  · exact h.elim
theorem k_max (hc : X.calm = true) : CallR X (.builtin "max") (rC X.K gMax) := CallR.imp ((call_max2 hc).or (cr_max hc)) fun xs H Q ⟨W, ds, P, dm, r, h, q⟩ => by
  unfold gMax at h
  split at h
  · obtain ⟨v, w, rfl, r1, r2⟩ := rr2 r
    cases r1.int
    cases r2.int
    exact .inl ⟨_, _, rfl, q _ _ _ h ⟨Same.refl _, .int _⟩⟩
  · obtain ⟨v, rfl, r1⟩ := rr1 r
    obtain ⟨a, ys, rfl, h1, a1⟩ := r1.list
    obtain ⟨bs, rfl, hl, h⟩ := h
    exact .inr ⟨a, bs, rfl, by rw [← a1.ints]; exact SqL.of h1, hl, fun m hm hy => q _ _ _ (h m hm hy) ⟨Same.refl _, .int _⟩⟩
  · exact h.elim
theorem k_min (hc : X.calm = true) : CallR X (.builtin "min") (rC X.K gMin) := CallR.imp ((call_min2 hc).or (cr_min hc)) fun xs H Q ⟨W, ds, P, dm, r, h, q⟩ => by
  unfold gMin at h
  split at h
  · obtain ⟨v, w, rfl, r1, r2⟩ := rr2 r
    cases r1.int
    cases r2.int
    exact .inl ⟨_, _, rfl, q _ _ _ h ⟨Same.refl _, .int _⟩⟩
  · obtain ⟨v, rfl, r1⟩ := rr1 r
    obtain ⟨a, ys, rfl, h1, a1⟩ := r1.list
    obtain ⟨bs, rfl, hl, h⟩ := h
    exact .inr ⟨a, bs, rfl, by rw [← a1.ints]; exact SqL.of h1, hl, fun m hm hy => q _ _ _ (h m hm hy) ⟨Same.refl _, .int _⟩⟩
  · exact h.elim
/-- sorted of a list that reads as data -/
def rSortD (K : PySem.W.Frag) (R : V → Dat → Prop) : List V → Hp → VK → Prop := fun vs H Q => ∃ (a : Addr) (xs : List V) (ds : List Dat), vs = [.ref a] ∧ SqL K H a xs ∧ Paired R xs ds ∧ (∀ v d, R v d → d ∈ ds → Dp K H v d) ∧ AllAlike ds ∧ Sortable ds ∧ (∀ d ∈ ds, d.depth ≤ 60) ∧
  ∀ ys p, Paired R ys (ds.mergeSort (dataLe false id)) → H p = none → Q (.ref p) (upd H p (.lst ys))
theorem each_of_paired {R : V → Dat → Prop} {S : V → Value → Prop} : ∀ {xs : List V} {ds : List Dat} {us : List Value}, Paired R xs ds → Paired S xs us → EachIs (fun u d => ∃ x, S x u ∧ R x d) us ds
  | _, _, _, .nil, .nil => .nil
  | _, _, _, .cons a t, .cons b r => .cons ⟨_, b, a⟩ (each_of_paired t r)
theorem paired_of_each {R : V → Dat → Prop} {S : V → Value → Prop} : ∀ {ds : List Dat} {us : List Value}, EachIs (fun u d => ∃ x, S x u ∧ R x d) us ds → ∃ xs, Paired R xs ds ∧ Paired S xs us
  | _, _, .nil => ⟨[], .nil, .nil⟩
  | _, _, .cons ⟨x, b, a⟩ t => by
    obtain ⟨xs, h1, h2⟩ := paired_of_each t
    exact ⟨x :: xs, .cons a h1, .cons b h2⟩
theorem each_mem' {α β : Type} {R : α → β → Prop} : ∀ {as : List α} {bs : List β}, EachIs R as bs → EachIs (fun a b => R a b ∧ b ∈ bs) as bs
  | _, _, .nil => .nil
  | _, _, .cons h t => .cons ⟨h, List.mem_cons_self⟩ ((each_mem' t).mono fun _ _ q => ⟨q.1, List.mem_cons_of_mem _ q.2⟩)
theorem cr_sortD {R : V → Dat → Prop} (hu : X.A.units + 64 < cLine) : CallR X (.builtin "sorted") (rSortD X.K R) := by
  intro pins s σ H vs us Q I r h
  obtain ⟨a, xs, ds, rfl, hs, hp, hd, hal, hk, hdp, q⟩ := h
  obtain ⟨its, rv, hl, hz⟩ := I.list hs
  obtain ⟨u, rfl, ru⟩ := vals1 r
  obtain rfl : u = Value.ref a := ru
  have e := each_of_paired hp rv
  have hlen : ds.length = its.length := by rw [← rv.length]; exact (Paired.length hp).symm
  refine PySem.W.sorted_data (bs := ds) (enc := id) (R := fun u d => ∃ x, RelV x u ∧ R x d) hl.isList e ?_ (by rw [List.map_id]; exact hal) (by rw [List.map_id]; exact hk) (by rw [hlen, ← rv.length]; exact hz) (fun b hb => ?_) fun out ho eo => ?_
  · refine (each_mem' e).mono fun u d ⟨⟨x, h1, h2⟩, hm⟩ => ?_
    exact Dp.reads I d x u (hd x d h2 hm) h1
  · have := hdp b hb
    show X.A.units + 2 + b.depth < cLine
    omega
  · obtain ⟨ys, h1, h2⟩ := paired_of_each eo
    obtain ⟨n, hn⟩ := PyProof.Rows.sortedAll_at s.heap its (List.toArray out)
    have hf : s.heap.objs.size ≤ s.heap.objs.size + 1 := Nat.le_succ _
    have hly : ys.length = out.length := Vals.length h2
    refine ⟨.ref (s.heap.objs.size + 1), upd H (s.heap.objs.size + 1) (.lst ys), I.laid (t' := s.toks) (fun b o e => PyProof.Rows.sortedAll_old e) hf ⟨?_, out, n, h2, hn⟩, rfl, q ys _ h1 (I.hok.fresh hf)⟩
    rw [hly, ho, hlen, ← rv.length]
    exact hz
theorem paired_rp {K : PySem.W.Frag} {H : Hp} {W : AS} : ∀ {xs : List V} {ds : List Dat}, RpAll K H W xs ds ↔ Paired (Rp K H W) xs ds := by
  intro xs ds
  constructor
  · intro h
    induction xs generalizing ds with
    | nil => cases h; exact .nil
    | cons x xs ih => cases h with | cons h1 h2 => exact .cons h1 (ih h2)
  · intro h
    induction xs generalizing ds with
    | nil => cases h; exact .nil
    | cons x xs ih => cases h with | cons h1 h2 => exact .cons h1 (ih h2)
theorem k_sorted (hu : X.A.units + 64 < cLine) : CallR X (.builtin "sorted") (rC X.K gSorted) := by
  intro pins s σ H xs us Q I rx ⟨W, ds, P, dm, r, h, q⟩
  unfold gSorted at h
  split at h
  · obtain ⟨v, rfl, r1⟩ := rr1 r
    obtain ⟨a, ys, rfl, h1, a1⟩ := r1.list
    obtain ⟨⟨c1, c2, c3⟩, h⟩ := h
    refine cr_sortD (R := Rp X.K H W) hu pins s σ H _ us Q I rx ⟨a, ys, _, rfl, SqL.of h1, paired_rp.mp a1, fun v d hv hd => hv.dp (c3 d hd).1, c1, c2, fun d hd => (c3 d hd).2, fun zs p hz hp => ?_⟩
    exact q _ _ _ h (pres_lst hp (paired_rp.mpr hz))
  · exact h.elim
end

/-! ### isinstance -/
def tyD : Dat → String
  | .none => "NoneType"
  | .bool _ => "bool"
  | .int _ => "int"
  | .str _ => "str"
  | .list _ => "list"
  | .tuple _ => "tuple"
  | .dict _ => "list"
def c_isi (n : String) (s : SE) : SE := fun ρ k => s ρ fun x ρ1 => rdK ρ1 x fun d => k (.dat (.bool (match kitB (tyD d) n with | some b => b | none => false))) ρ1
section
variable {X : Cx} {e : Expr} {pos p q : Pos}
theorem Rr.ty {K : PySem.W.Frag} {H : Hp} {W : AS} {v : V} {d : Dat} (r : Rr K H W v d) : TyX K H v (.type (tyD d)) := by
  cases r with
  | plain r =>
    cases r with
    | non => exact .base .non
    | bl b => exact .base (.bl b)
    | int b => exact .base (.int b)
    | str b => exact .base (.str b)
    | scr n h r => exact .base (.frz h)
    | skl h r =>
      obtain ⟨o, its, n, h1, h2, h3⟩ := h
      exact .kList h1 h2
    | lst h r => exact .base (.lst h.2)
    | tup h r =>
      rcases h with ⟨n, h | ⟨o, h⟩⟩ | ⟨o, its, n, h1, h2, h3, h4, h5⟩
      · exact .base (.tup h)
      · exact .fTuple h
      · exact .kTuple h1 h2
  | lst h r => exact .base (.lst h)
theorem e_isi {n : String} {x : Str} {s : SE} (hg : Gl X "isinstance") (hm : X.mg "isinstance" = none) (hg2 : Gl X x) (hm2 : X.mg x = none) (hv : bootBuiltins x = some (.type n)) (hn : x ≠ "__name__") (hdb : (x == ("__debug__" : Str)) = false)
    (hk : ∀ t ∈ ["NoneType", "bool", "int", "str", "list", "tuple"], (kitB t n).isSome = true) (he : PE X e (tE X.K s))
    (hs : starEach [e, .Name x q] X.env = (false, eval e X.env) :: starEach [.Name x q] X.env) (hpl : (backTo pos (starEach [.Name x q] X.env)).any (·.1) = false) :
    PE X (.Call (.Name "isinstance" p) [e, .Name x q] [] pos) (tE X.K (c_isi n s)) :=
  PE.imp (pe_callB call_isi hg hm boot_isinstance (pa_cons he (pa_cons (pe_bltn (v := .ty n) hg2 hm2 hv rfl hn hdb) pa_nil) hs) (he := hs) (hpl := hpl)) fun σ H Q ⟨ρ, W, rf, k, E, h, q⟩ => ⟨ρ, W, rf, _, E, h, fun x ρ1 v H1 W1 h1 G1 r1 => by
    obtain ⟨d, ed, h1⟩ := rdK_of h1
    have rr := r1.rd G1.env ed
    have hkd : ∃ b, kitB (tyD d) n = some b := Option.isSome_iff_exists.mp (hk _ (by cases d <;> simp [tyD]))
    obtain ⟨b, hb⟩ := hkd
    rw [hb] at h1
    exact ⟨v, .ty n, .type (tyD d), .type n, b, rfl, .ty n, rr.ty, kit_ty hb, q _ _ _ _ _ h1 G1 (.bl b)⟩⟩
end

/-! ### methods of texts, that only read -/
abbrev FM := Dat → List Dat → (Vl → Prop) → Prop
def c_meth (f : FM) (o : SE) (s : SA) : SE := fun ρ k => o ρ fun x ρ1 => s ρ1 fun ys ρ2 => rdK ρ2 x fun d => rdsK ρ2 ys fun ds => f d ds fun z => k z ρ2
def rM (K : PySem.W.Frag) (f : FM) : V → List V → Hp → VK → Prop := fun x xs H Q => ∃ (W : AS) (d : Dat) (ds : List Dat) (P : Vl → Prop), (∀ a, W a → H a ≠ none) ∧ Rr K H W x d ∧ RrAll K H W xs ds ∧ f d ds P ∧ ∀ z v H', P z → PRes K H W v H' z → Q v H'
def mJoin : FM
  | .str a, [.list ds], k => ∃ ys : List Str, ds = ys.map .str ∧ (ys.map (·.length)).sum + ys.length * a.length ≤ 16777216 ∧ k (.dat (.str (Txt.join a ys)))
  | .str a, [.tuple ds], k => ∃ ys : List Str, ds = ys.map .str ∧ (ys.map (·.length)).sum + ys.length * a.length ≤ 16777216 ∧ k (.dat (.str (Txt.join a ys)))
  | _, _, _ => False
section
variable {X : Cx} {o e : Expr} {pos apos : Pos}
theorem MtR.imp {id : String} {r r' : V → List V → Hp → VK → Prop} (h : MtR X id r) (i : ∀ x xs H Q, r' x xs H Q → r x xs H Q) : MtR X id r' := fun pins s σ H x xs v us Q I rx rxs q => h pins s σ H x xs v us Q I rx rxs (i _ _ _ _ q)
theorem m_join : MtR X "str.join" (rM X.K mJoin) := MtR.imp mt_join fun x xs H Q ⟨W, d, ds, P, dm, r0, r, h, q⟩ => by
  unfold mJoin at h
  split at h
  · cases r0.str
    obtain ⟨v, rfl, r1⟩ := rr1 r
    obtain ⟨b, zs, rfl, h1, a1⟩ := r1.list
    obtain ⟨ys, rfl, hz, h⟩ := h
    exact ⟨_, b, ys, rfl, rfl, .inl (by rw [← a1.strs]; exact SqL.of h1), hz, q _ _ _ h ⟨Same.refl _, .str _⟩⟩
  · cases r0.str
    obtain ⟨v, rfl, r1⟩ := rr1 r
    obtain ⟨b, zs, rfl, h1, a1⟩ := r1.tuple
    obtain ⟨ys, rfl, hz, h⟩ := h
    exact ⟨_, b, ys, rfl, rfl, .inr (by rw [← a1.strs]; exact h1), hz, q _ _ _ h ⟨Same.refl _, .str _⟩⟩
  · exact h.elim
/-- s.m(e) of a text -/
def strFirst (f : FM) : Prop := ∀ d ds P, f d ds P → ∃ z, d = .str z
theorem e_m1 {id : String} {name : Str} {f : FM} {so se : SE} (slot : PySem.Slot "str" name id) (ty : typeOf (.builtin id) = pure (.type "method_descriptor")) (rule : MtR X id (rM X.K f)) (hf : strFirst f) (ho : PE X o (tE X.K so)) (he : PE X e (tE X.K se))
    (hlit : ∃ z, so = c_lit (.str z)) (hs : starEach [e] X.env = [(false, eval e X.env)]) (hbase : attributeBase o name X.env (eval o X.env) = eval o X.env) (hline : (apos.endLine == pos.line) = true) :
    PE X (.Call (.Attribute o name apos) [e] [] pos) (tE X.K (c_meth f so (a_cons se a_nil))) :=
  PE.imp (pe_m1 slot ty rule ho he hs hbase hline) fun σ H Q ⟨ρ, W, rf, k, E, h, q⟩ => ⟨ρ, W, rf, (fun x ρ1 => (∃ z, x = .dat (.str z)) ∧ se ρ1 fun y ρ2 => rdK ρ2 x fun d => rdsK ρ2 [y] fun ds => f d ds fun z => k z ρ2), E, by
      obtain ⟨z, rfl⟩ := hlit
      exact ⟨⟨z, rfl⟩, h⟩, fun x ρ1 v H1 W1 ⟨⟨z, ez⟩, h1⟩ G1 r1 => by
    subst ez
    have rz : Rp X.K H1 W1 v (.str z) := r1
    cases rz
    refine ⟨⟨z, rfl⟩, ρ1, W1, rf, _, G1.env, h1, fun y ρ2 u H2 W2 h2 G2 r2 => ?_⟩
    have G := G1.trans E G2
    obtain ⟨d, ed, h2⟩ := rdK_of h2
    obtain ⟨ds, ra, h2⟩ := rdsK_of G2.env (.cons r2 .nil) h2
    exact ⟨W2, d, ds, _, G2.env.dom, (VlR.go G1.env r1 G2).rd G2.env ed, ra, h2, fun z v H' kz pr => let ⟨W3, G3, r3⟩ := pres_go E G pr; q _ _ _ _ _ kz G3 r3⟩⟩
end
end DL

/-! text E5 -/
set_option Elab.async false
set_option linter.all false
set_option maxRecDepth 100000
set_option maxHeartbeats 1000000
namespace DL
open PySem PySem.Spec PyProof.Rows L2 PySem.SeqAt
open PySem.W (alike alikeAll dataLt dataLe rcLt_alike AllAlike Sortable EachIs)
open RZ

/-! ### what is walked -/
abbrev SW := En → (List Dat → En → Prop) → Prop
/-- from (H1, W1) on, J yields ds -/
def Yld (K : PySem.W.Frag) (H1 : Hp) (W1 : AS) (J : It) (ds : List Dat) : Prop :=
  ∀ (H' : Hp) (W' : AS), (∀ a u, ¬ W1 a → H1 a = some u → H' a = some u) → (∀ a, W' a → W1 a ∨ H1 a = none) → (∀ a, W' a → H' a ≠ none) →
    (∀ (i : Nat) (d : Dat), ds[i]? = some d → J.go i H' ∧ ∀ x H'', J.yld i H' x H'' → Same H' H'' ∧ Rp K H'' W' x d) ∧ J.stop ds.length H'
def tI (K : PySem.W.Frag) (w : SW) : TI := fun σ H R => ∃ (ρ : En) (W : AS) (rf : List Addr) (k : List Dat → En → Prop), EnvR K rf σ H W ρ ∧ w ρ k ∧
  ∀ ds ρ1 H1 W1 J, k ds ρ1 → Go K rf σ H W ρ σ H1 W1 ρ1 → Yld K H1 W1 J ds → R J H1
theorem PI.imp {X : Cx} {tg e : Expr} {t t' : TI} (h : PI X tg e t) (i : ∀ σ H R, t' σ H R → t σ H R) : PI X tg e t' := ⟨fun pins s σ H R I q => h.run pins s σ H R I (i σ H R q)⟩
def sgn (c : Nat) : Dat := .str ⟨#[c]⟩
def asSeq (k : List Dat → En → Prop) : Dat → En → Prop := fun d ρ => match d with
  | .list ds => k ds ρ
  | .tuple ds => k ds ρ
  | .str z => k (z.cps.toList.map sgn) ρ
  | _ => False
def w_seq (s : SE) : SW := fun ρ k => s ρ fun x ρ1 => mvK ρ1 x (asSeq k)
def rng (lo : Int) (n : Nat) : List Dat := (List.range n).map fun (i : Nat) => .int (lo + (i : Int))
def w_rng1 (s : SE) : SW := fun ρ k => s ρ fun x ρ1 => match x with
  | .dat (.int j) => (-(2 ^ 62) ≤ j ∧ j < 2 ^ 62) ∧ k (rng 0 j.toNat) ρ1
  | _ => False
def w_rng2 (s t : SE) : SW := fun ρ k => s ρ fun x ρ1 => t ρ1 fun y ρ2 => match x, y with
  | .dat (.int i), .dat (.int j) => (-(2 ^ 62) ≤ i ∧ i < 2 ^ 62 ∧ -(2 ^ 62) ≤ j ∧ j < 2 ^ 62) ∧ k (rng i (j - i).toNat) ρ2
  | _, _ => False
def zipD : List Dat → List Dat → List Dat
  | x :: xs, y :: ys => .tuple [x, y] :: zipD xs ys
  | _, _ => []
/-- both lists, or both tuples -/
def asZip (k : List Dat → En → Prop) : Dat → Dat → En → Prop := fun d e ρ => match d, e with
  | .list ds, .list es => k (zipD ds es) ρ
  | .tuple ds, .tuple es => k (zipD ds es) ρ
  | _, _ => False
def w_zip (s t : SE) : SW := fun ρ k => s ρ fun x ρ1 => t ρ1 fun y ρ2 => mvsK ρ2 [x, y] fun ds ρ3 => match ds with
  | [d, e] => asZip k d e ρ3
  | _ => False
def enumFrom : Nat → List Dat → List Dat
  | _, [] => []
  | n, x :: xs => .tuple [.int n, x] :: enumFrom (n + 1) xs
def asEnumL (k : List Dat → En → Prop) : Dat → En → Prop := fun d ρ => match d with
  | .list ds => k (enumFrom 0 ds) ρ
  | _ => False
def w_enumL (s : SE) : SW := fun ρ k => s ρ fun x ρ1 => mvK ρ1 x (asEnumL k)
theorem rng_get {lo : Int} {n i : Nat} {d : Dat} (h : (rng lo n)[i]? = some d) : i < n ∧ d = .int (lo + i) := by
  unfold rng at h
  rw [List.getElem?_map] at h
  cases e : (List.range n)[i]? with
  | none => rw [e] at h; cases h
  | some j =>
    rw [e] at h
    obtain ⟨h1, h2⟩ := List.getElem?_eq_some_iff.mp e
    rw [List.getElem_range] at h2
    rw [List.length_range] at h1
    subst h2
    cases h
    exact ⟨h1, rfl⟩
theorem rng_length (lo : Int) (n : Nat) : (rng lo n).length = n := by unfold rng; rw [List.length_map, List.length_range]
theorem zipD_get : ∀ {xs ys : List Dat} {i : Nat} {d : Dat}, (zipD xs ys)[i]? = some d → ∃ x y, xs[i]? = some x ∧ ys[i]? = some y ∧ d = .tuple [x, y]
  | [], _, _, _, h => by simp [zipD] at h
  | _ :: _, [], _, _, h => by simp [zipD] at h
  | x :: xs, y :: ys, 0, d, h => by simp [zipD] at h; exact ⟨x, y, rfl, rfl, h.symm⟩
  | x :: xs, y :: ys, i + 1, d, h => by
    obtain ⟨a, b, h1, h2, h3⟩ := zipD_get (xs := xs) (ys := ys) (i := i) (by simpa [zipD] using h)
    exact ⟨a, b, by simpa using h1, by simpa using h2, h3⟩
theorem zipD_length : ∀ (xs ys : List Dat), (zipD xs ys).length = min xs.length ys.length
  | [], _ => by simp [zipD]
  | _ :: _, [] => by simp [zipD]
  | x :: xs, y :: ys => by simp only [zipD, List.length_cons, zipD_length xs ys]; omega
theorem enum_get : ∀ {xs : List Dat} {n i : Nat} {d : Dat}, (enumFrom n xs)[i]? = some d → ∃ x, xs[i]? = some x ∧ d = .tuple [.int ((n + i : Nat) : Int), x]
  | [], _, _, _, h => by simp [enumFrom] at h
  | x :: xs, n, 0, d, h => by simp [enumFrom] at h; exact ⟨x, rfl, h.symm⟩
  | x :: xs, n, i + 1, d, h => by
    obtain ⟨a, h1, h3⟩ := enum_get (xs := xs) (n := n + 1) (i := i) (by simpa [enumFrom] using h)
    exact ⟨a, by simpa using h1, by rw [h3]; congr 3; omega⟩
theorem enum_length : ∀ (xs : List Dat) (n : Nat), (enumFrom n xs).length = xs.length
  | [], _ => rfl
  | x :: xs, n => by simp only [enumFrom, List.length_cons, enum_length xs (n + 1)]
section
variable {X : Cx} {tg e a b : Expr} {pos p : Pos}
/-- a list, a tuple, a text -/
def iAny (K : PySem.W.Frag) (te : TE) : TI := fun σ H R => te σ H fun v H1 => (∃ a xs, v = .ref a ∧ SqL K H1 a xs ∧ R (Itl K a) H1) ∨ (∃ a xs, v = .ref a ∧ SqT K H1 a xs ∧ R (Itt K a) H1) ∨ ∃ x, v = .str x ∧ R (Its x) H1
theorem pi_any {te : TE} (he : PE X e te) : PI X tg e (iAny X.K te) := by
  refine ⟨fun pins s σ H R I h => ?_⟩
  refine thn (he.run pins s σ H _ I h) fun v s1 ⟨y, H1, I1, r1, q1⟩ => ?_
  rcases q1 with ⟨a, xs, rfl, hq, q⟩ | ⟨a, xs, rfl, hq, q⟩ | ⟨x, rfl, q⟩
  · cases r1
    obtain ⟨its, rv, p, hz⟩ := I1.list hq
    refine wpAny_pyIter_list p.isList ?_
    refine ⟨s1.heap.objs.size, [s1.heap.objs.size], _, _, H1, rfl, I1.kept (t' := s1.toks) fun b o e => Heap.get?_push_of_some _ e, turn_list a _, ⟨_, Heap.get?_push_size _ rfl, rfl, rfl⟩, fun b hb => ?_, q⟩
    have e : b = s1.heap.objs.size := by simpa using hb
    subst e
    exact I1.fpOk (Nat.le_refl _) (I1.hok.fresh (Nat.le_refl _))
  · cases r1
    obtain ⟨its, rv, p, hz⟩ := I1.tuple hq
    refine wpAny_pyIter_tuple (show s1.heap.IsTuple a its.toArray from p) ?_
    refine ⟨s1.heap.objs.size, [s1.heap.objs.size], _, _, H1, rfl, I1.kept (t' := s1.toks) fun b o e => Heap.get?_push_of_some _ e, turn_tuple a _, ⟨_, Heap.get?_push_size _ rfl, rfl, rfl⟩, fun b hb => ?_, q⟩
    have e : b = s1.heap.objs.size := by simpa using hb
    subst e
    exact I1.fpOk (Nat.le_refl _) (I1.hok.fresh (Nat.le_refl _))
  · obtain ⟨t, rfl⟩ := r1
    cases ha : x.cps.all (· < 128)
    · exact wpAny_pyIter_wide ha (pi_one (tk := s1.toks) I1 _ (turn_str _ x t "str_iterator" (.inr rfl)) ⟨_, Heap.get?_push_size _ rfl, rfl, rfl⟩ q)
    · exact wpAny_pyIter_ascii ha (pi_one (tk := s1.toks) I1 _ (turn_str _ x t "str_ascii_iterator" (.inl rfl)) ⟨_, Heap.get?_push_size _ rfl, rfl, rfl⟩ q)
theorem PL.later {H1 H' : Hp} {W1 W' : AS} {a : Addr} {xs : List V} (k : ∀ a u, ¬ W1 a → H1 a = some u → H' a = some u) (h : PL H1 W1 a xs) : H' a = some (.lst xs) := k a _ h.1 h.2
theorem PT'.later {K : PySem.W.Frag} {H1 H' : Hp} {W1 : AS} {a : Addr} {xs : List V} (k : ∀ a u, ¬ W1 a → H1 a = some u → H' a = some u) (h : PT' K H1 W1 a xs) : SqT K H' a xs := by
  rcases h with ⟨n, h | ⟨o, h⟩⟩ | h
  · exact .inl (.inl (k _ _ n h))
  · exact .inl (.inr ⟨o, k _ _ n h⟩)
  · exact .inr h
theorem RpAll.later {K : PySem.W.Frag} {H1 H' : Hp} {W1 W' : AS} {vs : List V} {ds : List Dat} (k : ∀ a u, ¬ W1 a → H1 a = some u → H' a = some u) (g : ∀ a, W' a → W1 a ∨ H1 a = none) (r : RpAll K H1 W1 vs ds) : RpAll K H' W' vs ds :=
  r.mono (O := W1) ⟨k⟩ (fun _ h => h) g
theorem yld_list {K : PySem.W.Frag} {H1 : Hp} {W1 : AS} {a : Addr} {xs : List V} {ds : List Dat} (h : PL H1 W1 a xs) (r : RpAll K H1 W1 xs ds) : Yld K H1 W1 (Itl K a) ds := by
  intro H' W' k g d
  have hl := SqL.of (K := K) (PL.later (W' := W') k h)
  have rl := r.later k g
  refine ⟨fun i d hd => ?_, ⟨xs, hl, by rw [r.length]; exact Nat.le_refl _⟩⟩
  obtain ⟨v, hv, rv⟩ := rl.get hd
  refine ⟨⟨xs, v, hl, hv⟩, fun x H'' ⟨e1, e2⟩ => ?_⟩
  subst e1
  have := e2 xs hl
  rw [hv] at this
  cases this
  exact ⟨Same.refl _, rv⟩
theorem yld_tup {K : PySem.W.Frag} {H1 : Hp} {W1 : AS} {a : Addr} {xs : List V} {ds : List Dat} (h : PT' K H1 W1 a xs) (r : RpAll K H1 W1 xs ds) : Yld K H1 W1 (Itt K a) ds := by
  intro H' W' k g d
  have hl := h.later k
  have rl := r.later k g
  refine ⟨fun i d hd => ?_, ⟨xs, hl, by rw [r.length]; exact Nat.le_refl _⟩⟩
  obtain ⟨v, hv, rv⟩ := rl.get hd
  refine ⟨⟨xs, v, hl, hv⟩, fun x H'' ⟨e1, e2⟩ => ?_⟩
  subst e1
  have := e2 xs hl
  rw [hv] at this
  cases this
  exact ⟨Same.refl _, rv⟩
theorem yld_str {K : PySem.W.Frag} {H1 : Hp} {W1 : AS} {z : Str} : Yld K H1 W1 (Its z) (z.cps.toList.map sgn) := by
  intro H' W' k g d
  have hn : (z.cps.toList.map sgn).length = z.cps.size := by rw [List.length_map, Array.length_toList]
  refine ⟨fun i d hd => ?_, by rw [hn]; exact Nat.le_refl _⟩
  have hi : i < z.cps.size := by
    have := (List.getElem?_eq_some_iff.mp hd).1
    omega
  refine ⟨hi, fun x H'' ⟨e1, c, hc, ex⟩ => ?_⟩
  subst e1 ex
  rw [List.getElem?_map, Array.getElem?_toList, hc] at hd
  cases hd
  exact ⟨Same.refl _, .str _⟩
theorem yld_rng {K : PySem.W.Frag} {H1 : Hp} {W1 : AS} {lo : Int} {n : Nat} : Yld K H1 W1 (Itr lo n) (rng lo n) := by
  intro H' W' k g d
  refine ⟨fun i d hd => ?_, by rw [rng_length]; exact Nat.le_refl _⟩
  obtain ⟨hi, rfl⟩ := rng_get hd
  refine ⟨hi, fun x H'' ⟨e1, ex⟩ => ?_⟩
  subst e1 ex
  exact ⟨Same.refl _, .int _⟩
theorem i_seq {s : SE} (he : PE X e (tE X.K s)) : PI X tg e (tI X.K (w_seq s)) := PI.imp (pi_any he) fun σ H R ⟨ρ, W, rf, k, E, h, q⟩ => ⟨ρ, W, rf, _, E, h, fun x ρ1 v H1 W1 h1 G1 r1 => by
  obtain ⟨d, ρ2, em, h1⟩ := mvK_of h1
  obtain ⟨W2, G2, rp, _, _⟩ := mv_ok E G1 r1.w em
  cases d <;> first | exact False.elim h1 | skip
  · cases rp
    exact .inr (.inr ⟨_, rfl, q _ _ _ _ _ h1 (G2) yld_str⟩)
  · cases rp with
    | lst hl ra => exact .inl ⟨_, _, rfl, hl.sq, q _ _ _ _ _ h1 G2 (yld_list hl ra)⟩
  · cases rp with
    | tup hl ra => exact .inr (.inl ⟨_, _, rfl, hl.sq, q _ _ _ _ _ h1 G2 (yld_tup hl ra)⟩)⟩
theorem i_rng1 {s : SE} (hg : Gl X "range") (hm : X.mg "range" = none) (ha : PE X a (tE X.K s)) (hs : starEach [a] X.env = [(false, eval a X.env)]) : PI X tg (.Call (.Name "range" p) [a] [] pos) (tI X.K (w_rng1 s)) :=
  PI.imp (pi_range1 hg hm (pa_cons ha pa_nil hs) hs) fun σ H R ⟨ρ, W, rf, k, E, h, q⟩ => ⟨ρ, W, rf, _, E, h, fun x ρ1 v H1 W1 h1 G1 r1 => by
    split at h1
    · have r1 : Rp X.K H1 W1 v _ := r1
      cases r1
      exact ⟨_, rfl, h1.1.1, h1.1.2, q _ _ _ _ _ h1.2 G1 yld_rng⟩
    · exact h1.elim⟩
theorem i_rng2 {s t : SE} (hg : Gl X "range") (hm : X.mg "range" = none) (ha : PE X a (tE X.K s)) (hb : PE X b (tE X.K t)) (hs : starEach [a, b] X.env = [(false, eval a X.env), (false, eval b X.env)]) (hs2 : starEach [b] X.env = [(false, eval b X.env)]) :
    PI X tg (.Call (.Name "range" p) [a, b] [] pos) (tI X.K (w_rng2 s t)) :=
  PI.imp (pi_range2 hg hm (pa_cons ha (pa_cons hb pa_nil hs2) (by rw [hs, hs2])) hs hs2) fun σ H R ⟨ρ, W, rf, k, E, h, q⟩ => ⟨ρ, W, rf, _, E, h, fun x ρ1 v H1 W1 h1 G1 r1 =>
    ⟨ρ1, W1, rf, _, G1.env, h1, fun y ρ2 u H2 W2 h2 G2 r2 => by
      split at h2
      · have r1' : Rp X.K H2 W2 v _ := r1.go G1.env G2
        have r2 : Rp X.K H2 W2 u _ := r2
        cases r1'
        cases r2
        exact ⟨_, _, rfl, h2.1, q _ _ _ _ _ h2.2 (G1.trans E G2) yld_rng⟩
      · exact h2.elim⟩⟩
theorem yld_zipL {K : PySem.W.Frag} {H1 : Hp} {W1 : AS} {a b : Addr} {xs ys : List V} {ds es : List Dat} (h : PL H1 W1 a xs) (h2 : PL H1 W1 b ys) (r : RpAll K H1 W1 xs ds) (r2 : RpAll K H1 W1 ys es) : Yld K H1 W1 (Itz K a b) (zipD ds es) := by
  intro H' W' k g d
  have hl := SqL.of (K := K) (PL.later (W' := W') k h)
  have rl := r.later k g
  have hl2 := SqL.of (K := K) (PL.later (W' := W') k h2)
  have rl2 := r2.later k g
  refine ⟨fun i z hz => ?_, ⟨xs, ys, hl, hl2, by rw [zipD_length, r.length, r2.length]; omega⟩⟩
  obtain ⟨x, y, hx, hy, rfl⟩ := zipD_get hz
  obtain ⟨v, hv, rv⟩ := rl.get hx
  obtain ⟨u, hu, ru⟩ := rl2.get hy
  refine ⟨⟨xs, ys, v, u, hl, hl2, hv, hu⟩, fun x' H'' ⟨T, x1, y1, e1, e2, e3, e4, e5⟩ => ?_⟩
  subst e1 e3
  have q1 := e4 xs hl
  have q2 := e5 ys hl2
  rw [hv] at q1
  rw [hu] at q2
  cases q1
  cases q2
  exact ⟨Same.upd e2, Rp.newT d e2 (.cons rv (.cons ru .nil))⟩
theorem yld_zipT {K : PySem.W.Frag} {H1 : Hp} {W1 : AS} {a b : Addr} {xs ys : List V} {ds es : List Dat} (h : PT' K H1 W1 a xs) (h2 : PT' K H1 W1 b ys) (r : RpAll K H1 W1 xs ds) (r2 : RpAll K H1 W1 ys es) : Yld K H1 W1 (ItzT K a b) (zipD ds es) := by
  intro H' W' k g d
  have hl := h.later k
  have rl := r.later k g
  have hl2 := h2.later k
  have rl2 := r2.later k g
  refine ⟨fun i z hz => ?_, ⟨xs, ys, hl, hl2, by rw [zipD_length, r.length, r2.length]; omega⟩⟩
  obtain ⟨x, y, hx, hy, rfl⟩ := zipD_get hz
  obtain ⟨v, hv, rv⟩ := rl.get hx
  obtain ⟨u, hu, ru⟩ := rl2.get hy
  refine ⟨⟨xs, ys, v, u, hl, hl2, hv, hu⟩, fun x' H'' ⟨T, x1, y1, e1, e2, e3, e4, e5⟩ => ?_⟩
  subst e1 e3
  have q1 := e4 xs hl
  have q2 := e5 ys hl2
  rw [hv] at q1
  rw [hu] at q2
  cases q1
  cases q2
  exact ⟨Same.upd e2, Rp.newT d e2 (.cons rv (.cons ru .nil))⟩
theorem i_zip {s t : SE} {elts : List Expr} {kk : Nat} {tpos : Pos} (hg : Gl X "zip") (hm : X.mg "zip" = none) (ha : PE X a (tE X.K s)) (hb : PE X b (tE X.K t))
    (hs : starEach [a, b] X.env = (false, eval a X.env) :: starEach [b] X.env) (hs2 : starEach [b] X.env = (false, eval b X.env) :: starEach [] X.env) (hpl : (backTo pos (starEach [b] X.env)).any (·.1) = false) :
    PI X (.Tuple elts kk tpos) (.Call (.Name "zip" p) [a, b] [] pos) (tI X.K (w_zip s t)) :=
  PI.imp (pi_zipA hg hm (pa_cons ha (pa_cons hb pa_nil hs2) hs) hs hpl) fun σ H R ⟨ρ, W, rf, k, E, h, q⟩ => ⟨ρ, W, rf, _, E, h, fun x ρ1 v H1 W1 h1 G1 r1 =>
    ⟨ρ1, W1, rf, _, G1.env, h1, fun y ρ2 u H2 W2 h2 G2 r2 => by
      have G := G1.trans E G2
      obtain ⟨ds, ρ3, em, h3⟩ := mvsK_of h2
      obtain ⟨W3, G3, ra, _, _⟩ := mvs_ok E G (VlsW.cons (r1.go G1.env G2).w (.cons (r2.early fun a h => G1.fresh h).w .nil)) em
      split at h3
      · rename_i d e
        cases ra with
        | cons ra1 ra =>
          cases ra with
          | cons ra2 ra =>
            cases ra
            cases d <;> cases e <;> first | exact False.elim h3 | skip
            · cases ra1 with
              | lst l1 l2 =>
                cases ra2 with
                | lst l3 l4 => exact ⟨_, _, _, _, rfl, .inl ⟨l1.sq, l3.sq, q _ _ _ _ _ h3 G3 (yld_zipL l1 l3 l2 l4)⟩⟩
            · cases ra1 with
              | tup l1 l2 =>
                cases ra2 with
                | tup l3 l4 => exact ⟨_, _, _, _, rfl, .inr ⟨l1.sq, l3.sq, q _ _ _ _ _ h3 G3 (yld_zipT l1 l3 l2 l4)⟩⟩
      · exact h3.elim⟩⟩
end
end DL

/-! text E6 -/
set_option Elab.async false
set_option linter.all false
set_option maxRecDepth 100000
set_option maxHeartbeats 1000000
namespace DL
open PySem PySem.Spec PyProof.Rows L2 PySem.SeqAt
open PySem.W (alike alikeAll dataLt dataLe rcLt_alike AllAlike Sortable EachIs)

section
variable {K : PySem.W.Frag} {rf : List Addr} {σ σ' : Sg} {H H' H0 H1 : Hp} {W W' : AS} {ρ ρ' : En} {v : V} {a : Addr}
/-- objects that no slot has may change -/
theorem EnvR.kp {O : AS} (E : EnvR K rf σ H W ρ) (k : Kp O H H') (hO : ∀ a, O a → W a) (n : ∀ a, O a → ¬ Own σ ρ a) (d : ∀ a, H a ≠ none → H' a ≠ none) : EnvR K rf σ H' W ρ := by
  refine ⟨E.len, fun a h => d a (E.dom a h), fun a h => d a (E.rfd a h), fun i d h => ?_, fun i t o h => ?_, E.inj⟩
  · obtain ⟨v, e, r⟩ := E.val i d h
    exact ⟨v, e, r.mono k hO fun _ h => .inl h⟩
  · obtain ⟨a, e, w, r, t1, t2⟩ := E.own i t o h
    exact ⟨a, e, w, r.mono k hO (fun _ h => .inl h) fun z => n a z ⟨i, t, o, h, e⟩, t1, t2⟩
/-- another object holds other things now -/
theorem EnvR.upd {o : HO} (E : EnvR K rf σ H W ρ) (w : W a) (n : ¬ Own σ ρ a) : EnvR K rf σ (upd H a o) W ρ :=
  E.kp (O := fun b => b = a) ⟨fun b u z e => by rw [upd_ne z]; exact e⟩ (fun b z => by rw [z]; exact w) (fun b z => by rw [z]; exact n) fun b h => by
    by_cases z : b = a
    · rw [z, upd_same]; simp
    · rw [upd_ne z]; exact h
theorem RpAll.upd {o : HO} {vs : List V} {ds : List Dat} (w : W a) (r : RpAll K H W vs ds) : RpAll K (upd H a o) W vs ds :=
  r.mono (O := fun b => b = a) ⟨fun b u z e => by rw [upd_ne z]; exact e⟩ (fun b z => by rw [z]; exact w) fun _ h => .inl h
theorem Rp.upd {o : HO} {d : Dat} (w : W a) (r : Rp K H W v d) : Rp K (upd H a o) W v d :=
  r.mono (O := fun b => b = a) ⟨fun b u z e => by rw [upd_ne z]; exact e⟩ (fun b z => by rw [z]; exact w) fun _ h => .inl h
/-- a name holds plain data -/
theorem EnvR.store {i : Nat} {d : Dat} (E : EnvR K rf σ H W ρ) (r : Rp K H W v d) : EnvR K rf (σ.set i (some v)) H W (ρ.set i (.val d)) := by
  refine ⟨by rw [List.length_set, List.length_set]; exact E.len, E.dom, E.rfd, fun j d' h => ?_, fun j t o h => ?_, fun j l t u o q b h1 h2 h3 h4 => ?_⟩
  · by_cases hj : j = i
    · subst hj
      by_cases hlt : j < ρ.length
      · rw [List.getElem?_set_self hlt] at h
        cases h
        exact ⟨v, by rw [List.getElem?_set_self (by rw [← E.len]; exact hlt)], r⟩
      · rw [List.getElem?_eq_none (by rw [List.length_set]; omega)] at h; cases h
    · rw [List.getElem?_set_ne (Ne.symm hj)] at h ⊢
      exact E.val j d' h
  · by_cases hj : j = i
    · subst hj
      by_cases hlt : j < ρ.length
      · rw [List.getElem?_set_self hlt] at h; cases h
      · rw [List.getElem?_eq_none (by rw [List.length_set]; omega)] at h; cases h
    · rw [List.getElem?_set_ne (Ne.symm hj)] at h ⊢
      exact E.own j t o h
  · by_cases hj : j = i
    · subst hj
      by_cases hlt : j < ρ.length
      · rw [List.getElem?_set_self hlt] at h1; cases h1
      · rw [List.getElem?_eq_none (by rw [List.length_set]; omega)] at h1; cases h1
    · by_cases hl : l = i
      · subst hl
        by_cases hlt : l < ρ.length
        · rw [List.getElem?_set_self hlt] at h2; cases h2
        · rw [List.getElem?_eq_none (by rw [List.length_set]; omega)] at h2; cases h2
      · rw [List.getElem?_set_ne (Ne.symm hj)] at h1 h3
        rw [List.getElem?_set_ne (Ne.symm hl)] at h2 h4
        exact E.inj j l _ _ _ _ _ h1 h2 h3 h4
theorem own_store {i : Nat} {d : Dat} {b : Addr} (h : Own (σ.set i (some v)) (ρ.set i (.val d)) b) : Own σ ρ b := by
  obtain ⟨j, t, o, h1, h2⟩ := h
  by_cases hj : j = i
  · subst hj
    by_cases hlt : j < ρ.length
    · rw [List.getElem?_set_self hlt] at h1; cases h1
    · rw [List.getElem?_eq_none (by rw [List.length_set]; omega)] at h1; cases h1
  · rw [List.getElem?_set_ne (Ne.symm hj)] at h1 h2
    exact ⟨j, t, o, h1, h2⟩
theorem ownL_store {i : Nat} {d : Dat} {b : Addr} (h : OwnL (σ.set i (some v)) (ρ.set i (.val d)) b) : OwnL σ ρ b := by
  obtain ⟨j, o, h1, h2⟩ := h
  by_cases hj : j = i
  · subst hj
    by_cases hlt : j < ρ.length
    · rw [List.getElem?_set_self hlt] at h1; cases h1
    · rw [List.getElem?_eq_none (by rw [List.length_set]; omega)] at h1; cases h1
  · rw [List.getElem?_set_ne (Ne.symm hj)] at h1 h2
    exact ⟨j, o, h1, h2⟩
theorem Go.store {i : Nat} {d : Dat} {σ0 : Sg} {W0 : AS} {ρ0 : En} (G : Go K rf σ0 H0 W0 ρ0 σ H W ρ) (r : Rp K H W v d) : Go K rf σ0 H0 W0 ρ0 (σ.set i (some v)) H W (ρ.set i (.val d)) :=
  ⟨G.env.store r, G.kp, G.dom, G.grow, G.lose, fun b h => G.osub b (own_store h), fun b h => G.osubL b (ownL_store h)⟩
/-- a name holds an object of its own -/
theorem Go.hold {i : Nat} {o : OD} {σ0 : Sg} {W0 : AS} {ρ0 : En} (G : Go K rf σ0 H0 W0 ρ0 σ H W ρ) (hv : v = .ref a) (w : W a) (ob : ObjR K H W a o) (n : ¬ Own σ ρ a) (nr : a ∉ rf) (f : H0 a = none) : Go K rf σ0 H0 W0 ρ0 (σ.set i (some v)) H W (ρ.set i (.own 0 o)) := by
  subst hv
  have E := G.env
  have at_ : ∀ {j : Nat} {t : Nat} {q : OD}, (ρ.set i (.own 0 o))[j]? = some (.own t q) → (j = i ∧ t = 0 ∧ q = o ∧ (σ.set i (some (V.ref a)))[j]? = some (some (.ref a))) ∨ (j ≠ i ∧ ρ[j]? = some (.own t q) ∧ (σ.set i (some (V.ref a)))[j]? = σ[j]?) := fun {j t q} h => by
    by_cases hj : j = i
    · subst hj
      by_cases hlt : j < ρ.length
      · rw [List.getElem?_set_self hlt] at h
        cases h
        exact .inl ⟨rfl, rfl, rfl, by rw [List.getElem?_set_self (by rw [← E.len]; exact hlt)]⟩
      · rw [List.getElem?_eq_none (by rw [List.length_set]; omega)] at h; cases h
    · rw [List.getElem?_set_ne (Ne.symm hj)] at h ⊢
      exact .inr ⟨hj, h, rfl⟩
  have sub : ∀ b, Own (σ.set i (some (V.ref a))) (ρ.set i (.own 0 o)) b → Own σ ρ b ∨ b = a := fun b ⟨j, t, q, h1, h2⟩ => by
    rcases at_ h1 with ⟨_, _, _, h3⟩ | ⟨_, h3, h4⟩
    · rw [h2] at h3; cases h3; exact .inr rfl
    · exact .inl ⟨j, t, q, h3, by rw [← h4]; exact h2⟩
  refine ⟨⟨by rw [List.length_set, List.length_set]; exact E.len, E.dom, E.rfd, fun j d' h => ?_, fun j t q h => ?_, fun j l t u q1 q2 b h1 h2 h3 h4 => ?_⟩, G.kp, G.dom, G.grow, G.lose, fun b h => ?_, fun b h => ?_⟩
  · by_cases hj : j = i
    · subst hj
      by_cases hlt : j < ρ.length
      · rw [List.getElem?_set_self hlt] at h; cases h
      · rw [List.getElem?_eq_none (by rw [List.length_set]; omega)] at h; cases h
    · rw [List.getElem?_set_ne (Ne.symm hj)] at h ⊢
      exact E.val j d' h
  · rcases at_ h with ⟨_, rfl, rfl, h3⟩ | ⟨_, h3, h4⟩
    · exact ⟨a, h3, w, ob, fun j e => (nomatch e), fun _ => nr⟩
    · rw [h4]; exact E.own j t q h3
  · rcases at_ h1 with ⟨e1, _, _, k1⟩ | ⟨n1, k1, k2⟩
    · rcases at_ h2 with ⟨e2, _, _, _⟩ | ⟨n2, k3, k4⟩
      · rw [e1, e2]
      · rw [h3] at k1; cases k1
        rw [k4] at h4
        exact absurd ⟨l, u, q2, k3, h4⟩ n
    · rcases at_ h2 with ⟨e2, _, _, k3⟩ | ⟨n2, k3, k4⟩
      · rw [h4] at k3; cases k3
        rw [k2] at h3
        exact absurd ⟨j, t, q1, k1, h3⟩ n
      · rw [k2] at h3
        rw [k4] at h4
        exact E.inj j l _ _ _ _ _ k1 k3 h3 h4
  · rcases sub b h with h | h
    · exact G.osub b h
    · exact .inr (by rw [h]; exact f)
  · obtain ⟨j, q, h1, h2⟩ := h
    rcases at_ h1 with ⟨_, _, _, h3⟩ | ⟨_, h3, h4⟩
    · rw [h2] at h3; cases h3; exact .inr f
    · exact G.osubL b ⟨j, q, h3, by rw [← h4]; exact h2⟩
end

/-! ### targets -/
abbrev SG := Dat → En → (En → Prop) → Prop
abbrev SGs := List Dat → En → (En → Prop) → Prop
/-- only these slots are written -/
def Wr (vs : List Nat) (σ σ' : Sg) : Prop := σ'.length = σ.length ∧ ∀ i, i ∉ vs → σ'[i]? = σ[i]?
theorem Wr.refl (vs : List Nat) (σ : Sg) : Wr vs σ σ := ⟨rfl, fun _ _ => rfl⟩
theorem Wr.trans {vs : List Nat} {σ σ1 σ2 : Sg} (a : Wr vs σ σ1) (b : Wr vs σ1 σ2) : Wr vs σ σ2 := ⟨b.1.trans a.1, fun i h => (b.2 i h).trans (a.2 i h)⟩
theorem Wr.set {vs : List Nat} {σ : Sg} {i : Nat} {v : Option V} (h : i ∈ vs) : Wr vs σ (σ.set i v) := ⟨List.length_set, fun j hj => List.getElem?_set_ne (fun e => hj (by rw [← e]; exact h))⟩
def tG (K : PySem.W.Frag) (vs : List Nat) (g : SG) : TG := fun v σ H Q => ∃ (ρ : En) (W : AS) (rf : List Addr) (d : Dat) (k : En → Prop), EnvR K rf σ H W ρ ∧ Rp K H W v d ∧ g d ρ k ∧ ∀ ρ' σ', k ρ' → Go K rf σ H W ρ σ' H W ρ' → Wr vs σ σ' → Q σ' H
def tGs (K : PySem.W.Frag) (vs : List Nat) (g : SGs) : TGs := fun v σ H Q => ∃ (ρ : En) (W : AS) (rf : List Addr) (d : List Dat) (k : En → Prop), EnvR K rf σ H W ρ ∧ RpAll K H W v d ∧ g d ρ k ∧ ∀ ρ' σ', k ρ' → Go K rf σ H W ρ σ' H W ρ' → Wr vs σ σ' → Q σ' H
def g_name (i : Nat) : SG := fun d ρ k => k (ρ.set i (.val d))
def g_nil : SGs := fun ds ρ k => match ds with
  | [] => k ρ
  | _ => False
def g_cons (g : SG) (gs : SGs) : SGs := fun ds ρ k => match ds with
  | d :: ds => g d ρ fun ρ1 => gs ds ρ1 k
  | _ => False
def g_tup (n : Nat) (gs : SGs) : SG := fun d ρ k => match d with
  | .tuple ds => ds.length = n ∧ gs ds ρ k
  | _ => False
section
variable {X : Cx} {tg : Expr} {es : List Expr} {pos : Pos} {vs : List Nat}
theorem PG.imp {t t' : TG} (h : PG X tg t) (i : ∀ v σ H Q, t' v σ H Q → t v σ H Q) : PG X tg t' := ⟨fun pins s σ H v u Q I r q => h.run pins s σ H v u Q I r (i _ _ _ _ q)⟩
theorem PGs.imp {t t' : TGs} (h : PGs X es t) (i : ∀ v σ H Q, t' v σ H Q → t v σ H Q) : PGs X es t' := ⟨fun pins s σ H v u Q I r q => h.run pins s σ H v u Q I r (i _ _ _ _ q)⟩
theorem d_name {i : Nat} {x : Str} (hv : i ∈ vs) (hN : X.N.Nodup) (hi : X.N[i]? = some x) (hx : Loc X.env.scope x) (hf : X.fn x = true ∨ X.env.scope.names.lookup x = some .local) : PG X (.Name x pos) (tG X.K vs (g_name i)) :=
  PG.imp (pg_name hN hi hx hf) fun v σ H Q ⟨ρ, W, rf, d, k, E, r, h, q⟩ => q _ _ h ((Go.refl E).store r) (Wr.set hv)
theorem d_nil : PGs X [] (tGs X.K vs g_nil) := PGs.imp pgs_nil fun v σ H Q ⟨ρ, W, rf, d, k, E, r, h, q⟩ => by
  cases r with
  | nil => exact ⟨rfl, q _ _ h (Go.refl E) (Wr.refl _ _)⟩
  | cons _ _ => exact h.elim
theorem d_cons {g : SG} {gs : SGs} (h1 : PG X tg (tG X.K vs g)) (h2 : PGs X es (tGs X.K vs gs)) (hs : (assignEach (tg :: es) X.env).map (·.2) = assign tg X.env :: (assignEach es X.env).map (·.2)) : PGs X (tg :: es) (tGs X.K vs (g_cons g gs)) :=
  PGs.imp (pgs_cons h1 h2 hs) fun v σ H Q ⟨ρ, W, rf, d, k, E, r, h, q⟩ => by
    cases r with
    | nil => exact h.elim
    | cons r1 r2 =>
      refine ⟨_, _, rfl, ρ, W, rf, _, _, E, r1, h, fun ρ1 σ1 h1 G1 w1 => ?_⟩
      refine ⟨ρ1, W, rf, _, _, G1.env, r2, h1, fun ρ2 σ2 h2 G2 w2 => q _ _ h2 (G1.trans E G2) (w1.trans w2)⟩
theorem d_tup {k : Nat} {gs : SGs} {n : Nat} (hc : X.calm = true) (h : PGs X es (tGs X.K vs gs)) (hn : (assignEach es X.env).length = n) (hst : (assignEach es X.env).findIdx? (·.1) = none) : PG X (.Tuple es k pos) (tG X.K vs (g_tup n gs)) :=
  PG.imp (pg_tup hc h hn hst) fun v σ H Q ⟨ρ, W, rf, d, k, E, r, h, q⟩ => by
    cases d <;> first | exact False.elim h | skip
    cases r with
    | tup hl ra => exact ⟨_, _, rfl, hl.sq, by rw [ra.length]; exact h.1, ρ, W, rf, _, k, E, ra, h.2, q⟩
end

/-! ### [elt for target in iter if ..] -/
def wipeE (vs : List Nat) (ρ : En) : En := match vs with
  | [] => ρ
  | v :: vs => (wipeE vs ρ).set v .un
/-- a clause's tests -/
def b_yes : SB := fun ρ k => k true ρ
section
variable {K : PySem.W.Frag} {rf : List Addr} {σ σ' : Sg} {H H' H0 H1 : Hp} {W W' : AS} {ρ ρ' : En} {v : V} {a : Addr}
theorem EnvR.forget {i : Nat} (E : EnvR K rf σ H W ρ) : EnvR K rf (σ.set i none) H W (ρ.set i .un) := by
  have g : ∀ {j : Nat} {s : Slot}, (ρ.set i .un)[j]? = some s → s ≠ .un → j ≠ i ∧ ρ[j]? = some s ∧ (σ.set i none)[j]? = σ[j]? := fun {j s} h n => by
    by_cases hj : j = i
    · subst hj
      by_cases hlt : j < ρ.length
      · rw [List.getElem?_set_self hlt] at h; cases h; exact absurd rfl n
      · rw [List.getElem?_eq_none (by rw [List.length_set]; omega)] at h; cases h
    · rw [List.getElem?_set_ne (Ne.symm hj)] at h ⊢
      exact ⟨hj, h, rfl⟩
  refine ⟨by rw [List.length_set, List.length_set]; exact E.len, E.dom, E.rfd, fun j d' h => ?_, fun j t o h => ?_, fun j l t u o q b h1 h2 h3 h4 => ?_⟩
  · obtain ⟨_, h1, h2⟩ := g h (fun z => nomatch z)
    rw [h2]; exact E.val j d' h1
  · obtain ⟨_, h1, h2⟩ := g h (fun z => nomatch z)
    rw [h2]; exact E.own j t o h1
  · obtain ⟨_, k1, k2⟩ := g h1 (fun z => nomatch z)
    obtain ⟨_, k3, k4⟩ := g h2 (fun z => nomatch z)
    rw [k2] at h3
    rw [k4] at h4
    exact E.inj j l _ _ _ _ _ k1 k3 h3 h4
theorem own_forget {i : Nat} {b : Addr} (h : Own (σ.set i none) (ρ.set i .un) b) : Own σ ρ b := by
  obtain ⟨j, t, o, h1, h2⟩ := h
  by_cases hj : j = i
  · subst hj
    by_cases hlt : j < ρ.length
    · rw [List.getElem?_set_self hlt] at h1; cases h1
    · rw [List.getElem?_eq_none (by rw [List.length_set]; omega)] at h1; cases h1
  · rw [List.getElem?_set_ne (Ne.symm hj)] at h1 h2
    exact ⟨j, t, o, h1, h2⟩
theorem ownL_forget {i : Nat} {b : Addr} (h : OwnL (σ.set i none) (ρ.set i .un) b) : OwnL σ ρ b := by
  obtain ⟨j, o, h1, h2⟩ := h
  by_cases hj : j = i
  · subst hj
    by_cases hlt : j < ρ.length
    · rw [List.getElem?_set_self hlt] at h1; cases h1
    · rw [List.getElem?_eq_none (by rw [List.length_set]; omega)] at h1; cases h1
  · rw [List.getElem?_set_ne (Ne.symm hj)] at h1 h2
    exact ⟨j, o, h1, h2⟩
theorem Go.wipe {σ0 : Sg} {W0 : AS} {ρ0 : En} (G : Go K rf σ0 H0 W0 ρ0 σ H W ρ) : ∀ vs : List Nat, Go K rf σ0 H0 W0 ρ0 (L2.wipe σ vs) H W (wipeE vs ρ)
  | [] => G
  | i :: vs => by
    have G' := Go.wipe G vs
    exact ⟨G'.env.forget, G'.kp, G'.dom, G'.grow, G'.lose, fun b h => G'.osub b (own_forget h), fun b h => G'.osubL b (ownL_forget h)⟩
/-- slots that hold more -/
theorem EnvR.more (E : EnvR K rf σ H W ρ) (hl : σ'.length = σ.length) (w : ∀ (i : Nat) v, σ[i]? = some (some v) → σ'[i]? = some (some v)) : EnvR K rf σ' H W ρ := by
  refine ⟨E.len.trans hl.symm, E.dom, E.rfd, fun j d' h => ?_, fun j t o h => ?_, fun j l t u o q b h1 h2 h3 h4 => ?_⟩
  · obtain ⟨v, e, r⟩ := E.val j d' h
    exact ⟨v, w j v e, r⟩
  · obtain ⟨a, e, r⟩ := E.own j t o h
    exact ⟨a, w j _ e, r⟩
  · obtain ⟨a1, e1, _⟩ := E.own j t o h1
    obtain ⟨a2, e2, _⟩ := E.own l u q h2
    have z1 := w j _ e1
    have z2 := w l _ e2
    rw [h3] at z1; cases z1
    rw [h4] at z2; cases z2
    exact E.inj j l _ _ _ _ _ h1 h2 e1 e2
theorem Own.less (E : EnvR K rf σ H W ρ) (w : ∀ (i : Nat) v, σ[i]? = some (some v) → σ'[i]? = some (some v)) {b : Addr} (h : Own σ' ρ b) : Own σ ρ b := by
  obtain ⟨i, t, o, h1, h2⟩ := h
  obtain ⟨a, e, _⟩ := E.own i t o h1
  have z := w i _ e
  rw [h2] at z; cases z
  exact ⟨i, t, o, h1, e⟩
theorem OwnL.less (E : EnvR K rf σ H W ρ) (w : ∀ (i : Nat) v, σ[i]? = some (some v) → σ'[i]? = some (some v)) {b : Addr} (h : OwnL σ' ρ b) : OwnL σ ρ b := by
  obtain ⟨i, o, h1, h2⟩ := h
  obtain ⟨a, e, _⟩ := E.own i 0 o h1
  have z := w i _ e
  rw [h2] at z; cases z
  exact ⟨i, o, h1, e⟩
theorem Go.more {σ0 : Sg} {W0 : AS} {ρ0 : En} (G : Go K rf σ0 H0 W0 ρ0 σ H W ρ) (hl : σ'.length = σ.length) (w : ∀ (i : Nat) v, σ[i]? = some (some v) → σ'[i]? = some (some v)) : Go K rf σ0 H0 W0 ρ0 σ' H W ρ :=
  ⟨G.env.more hl w, G.kp, G.dom, G.grow, G.lose, fun b h => G.osub b (h.less G.env w), fun b h => G.osubL b (h.less G.env w)⟩
end
def c_lc (vs : List Nat) (w : SW) (g : SG) (t : SB) (e : SE) : SE := fun ρ k => w ρ fun ds ρ1 => ∃ I : Nat → List Dat → En → Prop, I 0 [] (wipeE vs ρ1) ∧
  (∀ i d acc ρ2, ds[i]? = some d → I i acc ρ2 → g d ρ2 fun ρ3 => t ρ3 fun c ρ4 => if c = true then e ρ4 fun x ρ5 => mvK ρ5 x fun d' ρ6 => acc.length < 16777216 ∧ I (i + 1) (acc ++ [d']) (wipeE vs ρ6) else I (i + 1) acc (wipeE vs ρ4)) ∧
  ∀ acc ρ2, I ds.length acc ρ2 → k (.new (.lst acc)) ρ2
def tTs (K : PySem.W.Frag) (s : SB) : TT := tT K s
section
variable {X : Cx} {elt tg iter : Expr} {ifs : List Expr} {scope : Scope} {own : List (Str × Nat)} {pos pos' : Pos} {w : SW} {g : SG} {t : SB} {se : SE}
theorem wipe_get {σ : Sg} : ∀ (vs : List Nat) (i : Nat) (v : V), (L2.wipe σ vs)[i]? = some (some v) → σ[i]? = some (some v) := fun vs i v h => (wipe_some h).1
theorem wipe_at (us : List Nat) (τ : Sg) (i : Nat) : (L2.wipe τ us)[i]? = if i ∈ us ∧ i < τ.length then some none else τ[i]? := by
  induction us with
  | nil => simp [L2.wipe]
  | cons u us ih =>
    show ((L2.wipe τ us).set u none)[i]? = _
    by_cases hu : u = i
    · subst hu
      by_cases hl : u < τ.length
      · rw [List.getElem?_set_self (by rw [wipe_length]; exact hl), if_pos ⟨List.mem_cons_self, hl⟩]
      · rw [List.getElem?_eq_none (by rw [List.length_set, wipe_length]; omega), if_neg (fun z => hl z.2), List.getElem?_eq_none (by omega)]
    · rw [List.getElem?_set_ne hu, ih]
      have e : (i ∈ u :: us) ↔ i ∈ us := by
        rw [List.mem_cons]
        exact ⟨fun h => h.elim (fun z => absurd z.symm hu) _root_.id, .inr⟩
      simp only [e]
theorem Wr.wipe {vs : List Nat} {σ σ' : Sg} (w : Wr vs σ σ') : L2.wipe σ' vs = L2.wipe σ vs := by
  apply List.ext_getElem?
  intro i
  rw [wipe_at, wipe_at, w.1]
  by_cases h : i ∈ vs
  · by_cases hl : i < σ.length
    · rw [if_pos ⟨h, hl⟩, if_pos ⟨h, hl⟩]
    · rw [if_neg (fun z => hl z.2), if_neg (fun z => hl z.2), List.getElem?_eq_none (by rw [w.1]; omega), List.getElem?_eq_none (by omega)]
  · rw [if_neg (fun z => h z.1), if_neg (fun z => h z.1), w.2 i h]
theorem wipe_idem {σ : Sg} {vs : List Nat} : L2.wipe (L2.wipe σ vs) vs = L2.wipe σ vs := by
  apply List.ext_getElem?
  intro i
  rw [wipe_at vs (L2.wipe σ vs), wipe_length]
  by_cases h : i ∈ vs ∧ i < σ.length
  · rw [if_pos h, wipe_at vs σ, if_pos h]
  · rw [if_neg h]
theorem own_wipe {σ : Sg} {ρ : En} {b : Addr} : ∀ {vs : List Nat}, Own (L2.wipe σ vs) (wipeE vs ρ) b → Own σ ρ b
  | [], h => h
  | _ :: _, h => own_wipe (own_forget h)
theorem tLc_of {σ : Sg} {H : Hp} {Q : VK} {vs : List Nat}
    (h : tE X.K (c_lc vs w g t se) σ H Q) : tLc (tI X.K w) (tG X.K vs g) (tT X.K t) (tE X.K se) vs σ H Q := by
  obtain ⟨ρ, W, rf, k, E, h, q⟩ := h
  refine ⟨ρ, W, rf, _, E, h, fun ds ρ1 H1 W1 J ⟨I, i0, it, ie⟩ G1 Y D hD => ?_⟩
  have nO : ¬ Own σ ρ1 D := fun z => G1.env.ownD z hD
  have nr : D ∉ rf := fun z => G1.env.rfd D z hD
  have fr : H D = none := G1.fresh hD
  -- the state at a turn
  let St : Nat → List Dat → Hp → AS → En → List V → Prop := fun i acc Hi Wi ρi vs' => I i acc ρi ∧ Go X.K rf σ H W ρ (L2.wipe σ vs) Hi Wi ρi ∧ (∀ a u, ¬ (W1 a ∨ a = D) → H1 a = some u → Hi a = some u) ∧ (∀ a, Wi a → W1 a ∨ H1 a = none) ∧ (∀ a, H1 a ≠ none → Hi a ≠ none) ∧
    Hi D = some (.lst vs') ∧ RpAll X.K Hi Wi vs' acc ∧ Wi D ∧ ¬ Own (L2.wipe σ vs) ρi D
  refine ⟨fun i m Hi => m = ds.length - i ∧ i ≤ ds.length ∧ ∃ acc Wi ρi vs', St i acc Hi Wi ρi vs', ⟨ds.length, by simp, Nat.zero_le _, [], fun b => W1 b ∨ b = D, wipeE vs ρ1, [], ?_⟩, ?_⟩
  · -- the start
    have E1 := G1.env
    have g1 : ∀ b, (W1 b ∨ b = D) → W1 b ∨ H1 b = none := fun b h => h.imp_right fun e => by rw [e]; exact hD
    have sm : Same H1 (upd H1 D (.lst [])) := Same.upd hD
    have E2 : EnvR X.K rf σ (upd H1 D (.lst [])) (fun b => W1 b ∨ b = D) ρ1 := E1.same sm g1 (fun _ h => .inl h) fun b h => by
      rcases h with h | h
      · exact Same.dom sm (E1.dom b h)
      · rw [h, upd_same]; simp
    have G2 : Go X.K rf σ H W ρ σ (upd H1 D (.lst [])) (fun b => W1 b ∨ b = D) ρ1 := ⟨E2, ⟨fun a u n e => sm a u (G1.kp.keep a u n e)⟩, fun a h => Same.dom sm (G1.dom a h), fun b h => (g1 b h).elim (G1.grow b) fun z => .inr (G1.fresh z), fun b h => (G1.lose b h).imp_left .inl, G1.osub, G1.osubL⟩
    exact ⟨i0, G2.wipe vs, fun a u n e => sm a u e, g1, fun a h => Same.dom sm h, upd_same, .nil, .inr rfl, fun z => nO (own_wipe z)⟩
  · rintro i m Hi ⟨rfl, hi, acc, Wi, ρi, vs', s1, s2, s3, s4, s5, s6, s7, s8, s9⟩
    have kk : ∀ a u, ¬ W1 a → H1 a = some u → Hi a = some u := fun a u n e => s3 a u (fun z => z.elim n fun z => by rw [z, hD] at e; cases e) e
    obtain ⟨y1, y2⟩ := Y Hi Wi kk s4 s2.env.dom
    by_cases hlt : i < ds.length
    · obtain ⟨d, hd⟩ : ∃ d, ds[i]? = some d := ⟨ds[i], by simp [hlt]⟩
      obtain ⟨go, yl⟩ := y1 i d hd
      refine .inr ⟨go, fun H' => ∃ acc Wi ρi vs', St (i + 1) acc H' Wi ρi vs', fun H' h' => ⟨ds.length - (i + 1), by omega, rfl, hlt, h'⟩, fun x H' hx => ?_⟩
      obtain ⟨sm, rx⟩ := yl x H' hx
      -- the iterator may lay a new tuple
      have E3 : EnvR X.K rf (L2.wipe σ vs) H' Wi ρi := s2.env.same sm (fun _ h => .inl h) (fun _ h => h) fun a h => Same.dom sm (s2.env.dom a h)
      have G3 : Go X.K rf σ H W ρ (L2.wipe σ vs) H' Wi ρi := ⟨E3, ⟨fun a u n e => sm a u (s2.kp.keep a u n e)⟩, fun a h => Same.dom sm (s2.dom a h), s2.grow, s2.lose, s2.osub, s2.osubL⟩
      have t3 := it i d acc ρi hd s1
      have hD' : H' D = some (.lst vs') := sm D _ s6
      have ra' : RpAll X.K H' Wi vs' acc := s7.same sm fun _ h => .inl h
      -- from a state behind the target to the turn's end
      refine ⟨ρi, Wi, rf, d, _, E3, rx, t3, fun ρ3 σ2 t4 G4 w4 => ?_⟩
      have hg2 : L2.wipe σ2 vs = L2.wipe σ vs := by rw [w4.wipe, wipe_idem]
      refine ⟨hg2, ρ3, Wi, rf, _, G4.env, t4, fun b ρ4 H3 W3 hb G5 => ?_⟩
      have G45 := G4.trans E3 G5
      have nO3 : ∀ {σx : Sg} {Hx : Hp} {Wx : AS} {ρx : En}, Go X.K rf (L2.wipe σ vs) H' Wi ρi σx Hx Wx ρx → ¬ Own σx ρx D := fun {σx Hx Wx ρx} Gx z => by
        rcases Gx.osub D z with z | z
        · exact s9 z
        · rw [hD'] at z; cases z
      -- what stays of D
      have stay : ∀ {σx : Sg} {Hx : Hp} {Wx : AS} {ρx : En}, Go X.K rf (L2.wipe σ vs) H' Wi ρi σx Hx Wx ρx → Hx D = some (.lst vs') ∧ RpAll X.K Hx Wx vs' acc ∧ Wx D ∧ (∀ a u, ¬ (W1 a ∨ a = D) → H1 a = some u → Hx a = some u) ∧ (∀ a, Wx a → W1 a ∨ H1 a = none) ∧ (∀ a, H1 a ≠ none → Hx a ≠ none) := fun {σx Hx Wx ρx} Gx => by
        refine ⟨Gx.kp.keep D _ s9 hD', ra'.mono Gx.kp (fun _ z => E3.ownW z) Gx.grow, ?_, fun a u n e => ?_, fun a h => ?_, fun a h => ?_⟩
        · rcases Gx.lose D s8 with z | z
          · exact z
          · exact absurd z.own s9
        · refine Gx.kp.keep a u (fun z => ?_) (sm a u (s3 a u n e))
          rcases s4 a (E3.ownW z) with q | q
          · exact n (.inl q)
          · rw [e] at q; cases q
        · rcases Gx.grow a h with z | z
          · exact s4 a z
          · refine .inr ?_
            cases e : H1 a with
            | none => rfl
            | some u => exact absurd z (Same.dom sm (s5 a (by rw [e]; simp)))
        · exact Gx.dom a (Same.dom sm (s5 a h))
      have back : ∀ {Hx : Hp} {Wx : AS} {ρx : En}, Go X.K rf (L2.wipe σ vs) H' Wi ρi σ2 Hx Wx ρx → Go X.K rf σ H W ρ (L2.wipe σ vs) Hx Wx (wipeE vs ρx) := fun {Hx Wx ρx} Gx => by
        have := (G3.trans E Gx).wipe vs
        rw [hg2] at this
        exact this
      cases b with
      | false =>
        have hb : I (i + 1) acc (wipeE vs ρ4) := by simpa using hb
        obtain ⟨a1, a2, a3, a4, a5, a6⟩ := stay G45
        have Gb := back G45
        show ∃ a Wi ρi vs', St (i + 1) a H3 Wi ρi vs'
        refine ⟨acc, W3, wipeE vs ρ4, vs', hb, Gb, a4, a5, a6, a1, a2, a3, fun z => ?_⟩
        have zz := (Go.wipe (Go.refl G45.env) vs)
        rw [hg2] at zz
        rcases zz.osub D z with q | q
        · exact nO3 G45 q
        · rw [a1] at q; cases q
      | true =>
        have hb : se ρ4 fun x ρ5 => mvK ρ5 x fun d' ρ6 => acc.length < 16777216 ∧ I (i + 1) (acc ++ [d']) (wipeE vs ρ6) := by simpa using hb
        show tE X.K se σ2 H3 _
        refine ⟨ρ4, W3, rf, _, G45.env, hb, fun y ρ5 u H4 W4 h5 G6 r6 => ?_⟩
        obtain ⟨d', ρ6, em, hz, hI⟩ := mvK_of h5
        have G7 := G45.trans E3 G6
        obtain ⟨W5, G8, rp, _, _⟩ := mv_ok E3 G7 (r6.early fun a h => G45.fresh h).w em
        obtain ⟨a1, a2, a3, a4, a5, a6⟩ := stay G8
        refine ⟨vs', a1, by rw [a2.length, sizeLine_eq]; exact hz, acc ++ [d'], W5, wipeE vs ρ6, vs' ++ [u], hI, ?_, fun a u n e => ?_, a5, fun a h => ?_, upd_same, (a2.append (.cons rp .nil)).upd a3, a3, fun z => ?_⟩
        · have Gb := back G8
          have nb : ¬ Own (L2.wipe σ vs) (wipeE vs ρ6) D := fun z => by
            have zz := (Go.wipe (Go.refl G8.env) vs)
            rw [hg2] at zz
            rcases zz.osub D z with q | q
            · exact nO3 G8 q
            · rw [a1] at q; cases q
          refine ⟨Gb.env.upd a3 nb, ⟨fun a u n e => ?_⟩, fun a h => ?_, Gb.grow, Gb.lose, Gb.osub, Gb.osubL⟩
          · rw [upd_ne (fun z => by rw [z, fr] at e; cases e)]
            exact Gb.kp.keep a u n e
          · by_cases z : a = D
            · rw [z, upd_same]; simp
            · rw [upd_ne z]; exact Gb.dom a h
        · rw [upd_ne (fun z => n (.inr z))]
          exact a4 a u n e
        · by_cases z : a = D
          · rw [z, upd_same]; simp
          · rw [upd_ne z]; exact a6 a h
        · have zz := (Go.wipe (Go.refl G8.env) vs)
          rw [hg2] at zz
          rcases zz.osub D z with q | q
          · exact nO3 G8 q
          · rw [a1] at q; cases q
    · have e : i = ds.length := by omega
      subst e
      refine .inl ⟨y2, ?_⟩
      have Gm := s2.more (σ' := σ) (by rw [wipe_length]) (wipe_get vs)
      exact q _ _ _ _ _ (ie acc ρi s1) Gm ⟨D, rfl, s8, ⟨vs', s6, s7⟩, fun z => s9 (z.less s2.env (wipe_get vs)), nr, fr⟩
end
end DL

/-! text E7 -/
set_option Elab.async false
set_option linter.all false
set_option maxRecDepth 100000
set_option maxHeartbeats 1000000
namespace DL
open PySem PySem.Spec PyProof.Rows L2 PySem.SeqAt
open PySem.W (alike alikeAll dataLt dataLe rcLt_alike AllAlike Sortable EachIs)

/-! ### statements -/
structure Kt where
  nx : En → Prop
  rt : Dat → En → Prop
  bk : En → Prop
  ct : En → Prop
abbrev SS := Kt → En → Prop
structure Ke (K : PySem.W.Frag) (rf : List Addr) (σ : Sg) (H : Hp) (W : AS) (ρ : En) (k : Kt) (D : Ends) : Prop where
  nx : ∀ ρ' σ' H' W', k.nx ρ' → Go K rf σ H W ρ σ' H' W' ρ' → D.nx σ' H'
  rt : ∀ d ρ' σ' v H' W', k.rt d ρ' → Go K rf σ H W ρ σ' H' W' ρ' → Rp K H' W' v d → D.rt v H'
  bk : ∀ ρ' σ' H' W', k.bk ρ' → Go K rf σ H W ρ σ' H' W' ρ' → D.bk σ' H'
  ct : ∀ ρ' σ' H' W', k.ct ρ' → Go K rf σ H W ρ σ' H' W' ρ' → D.ct σ' H'
def tS (K : PySem.W.Frag) (s : SS) : TS := fun D σ H => ∃ (ρ : En) (W : AS) (rf : List Addr) (k : Kt), EnvR K rf σ H W ρ ∧ s k ρ ∧ Ke K rf σ H W ρ k D
section
variable {K : PySem.W.Frag} {rf : List Addr} {σ σ1 : Sg} {H H1 : Hp} {W W1 : AS} {ρ ρ1 : En} {k : Kt} {D : Ends}
theorem Ke.on (E : EnvR K rf σ H W ρ) (q : Ke K rf σ H W ρ k D) (G : Go K rf σ H W ρ σ1 H1 W1 ρ1) : Ke K rf σ1 H1 W1 ρ1 k D :=
  ⟨fun ρ' σ' H' W' h g => q.nx ρ' σ' H' W' h (G.trans E g), fun d ρ' σ' v H' W' h g r => q.rt d ρ' σ' v H' W' h (G.trans E g) r, fun ρ' σ' H' W' h g => q.bk ρ' σ' H' W' h (G.trans E g), fun ρ' σ' H' W' h g => q.ct ρ' σ' H' W' h (G.trans E g)⟩
theorem Ke.nxt {N : L2.St → Hp → Prop} {n : En → Prop} (q : Ke K rf σ H W ρ k D) (h : ∀ ρ' σ' H' W', n ρ' → Go K rf σ H W ρ σ' H' W' ρ' → N σ' H') : Ke K rf σ H W ρ { k with nx := n } { D with nx := N } :=
  ⟨h, q.rt, q.bk, q.ct⟩
end
def c_nil : SS := fun k ρ => k.nx ρ
def c_seq (s t : SS) : SS := fun k ρ => s { k with nx := fun ρ' => t k ρ' } ρ
def c_ret (e : SE) : SS := fun k ρ => e ρ fun x ρ1 => mvK ρ1 x k.rt
def c_retN : SS := fun k ρ => k.rt .none ρ
def c_brk : SS := fun k ρ => k.bk ρ
def c_cont : SS := fun k ρ => k.ct ρ
def c_never : SS := fun _ _ => False
def c_ifS (t : SB) (a b : SS) : SS := fun k ρ => t ρ fun c ρ1 => if c = true then a k ρ1 else b k ρ1
def c_do (e : SE) : SS := fun k ρ => e ρ fun _ ρ1 => k.nx ρ1
def asgK (i : Nat) (x : Vl) (ρ : En) (k : En → Prop) : Prop := match x with
  | .dat d => k (ρ.set i (.val d))
  | .new o => k (ρ.set i (.own 0 o))
  | .loc j => mvK ρ (.loc j) fun d ρ1 => k (ρ1.set i (.val d))
def c_set (i : Nat) (e : SE) : SS := fun k ρ => e ρ fun x ρ1 => asgK i x ρ1 k.nx
def c_unp (g : SG) (e : SE) : SS := fun k ρ => e ρ fun x ρ1 => mvK ρ1 x fun d ρ2 => g d ρ2 k.nx
def noLoc : Vl → Prop
  | .loc _ => False
  | _ => True
def c_par (i j : Nat) (a b : SE) : SS := fun k ρ => a ρ fun x ρ1 => b ρ1 fun y ρ2 => noLoc x ∧ noLoc y ∧ asgK i x ρ2 fun ρ3 => asgK j y ρ3 k.nx
def c_for (w : SW) (g : SG) (b : SS) : SS := fun k ρ => w ρ fun ds ρ1 => ∃ I : Nat → En → Prop, I 0 ρ1 ∧
  (∀ i d ρ2, ds[i]? = some d → I i ρ2 → g d ρ2 fun ρ3 => b { k with nx := I (i + 1), ct := I (i + 1), bk := k.nx } ρ3) ∧ ∀ ρ2, I ds.length ρ2 → k.nx ρ2
def c_while (c : SB) (b : SS) : SS := fun k ρ => ∃ I : Nat → En → Prop, (∃ m, I m ρ) ∧ ∀ m ρ1, I m ρ1 →
  c ρ1 fun t ρ2 => if t = true then b { k with nx := fun ρ3 => ∃ m', m' < m ∧ I m' ρ3, ct := fun ρ3 => ∃ m', m' < m ∧ I m' ρ3, bk := k.nx } ρ2 else k.nx ρ2
def c_aug (i : Nat) (f : F2) (e : SE) : SS := fun k ρ => match ρ[i]? with
  | some (.val d) => e ρ fun y ρ1 => rdK ρ1 y fun e' => f d e' fun z => asgK i z ρ1 k.nx
  | _ => False
section
variable {X : Cx} {e a b : Expr} {st : Stmt} {sts rest : List Stmt} {pos pos' : Pos} {s t : SS} {se sa sb : SE} {sc : SB}
theorem PS.imp {t t' : TS} (h : PS X st t) (i : ∀ D σ H, t' D σ H → t D σ H) : PS X st t' := ⟨fun pins s σ H D I q => h.run pins s σ H D I (i D σ H q)⟩
theorem PSs.imp {t t' : TS} (h : PSs X sts t) (i : ∀ D σ H, t' D σ H → t D σ H) : PSs X sts t' := ⟨fun pins s σ H D I q => h.run pins s σ H D I (i D σ H q)⟩
theorem then_S {K : PySem.W.Frag} {rf : List Addr} {σ σ1 : Sg} {H H1 : Hp} {W W1 : AS} {ρ ρ1 : En} {k : Kt} {D : Ends} (E : EnvR K rf σ H W ρ) (q : Ke K rf σ H W ρ k D) (G : Go K rf σ H W ρ σ1 H1 W1 ρ1) (h : s k ρ1) : tS K s D σ1 H1 := ⟨ρ1, W1, rf, k, G.env, h, q.on E G⟩
theorem s_nil : PSs X [] (tS X.K c_nil) := PSs.imp pss_nil fun D σ H ⟨ρ, W, rf, k, E, h, q⟩ => q.nx _ _ _ _ h (Go.refl E)
theorem s_cons (h1 : PS X st (tS X.K s)) (h2 : PSs X rest (tS X.K t)) : PSs X (st :: rest) (tS X.K (c_seq s t)) :=
  PSs.imp (pss_cons h1 h2) fun D σ H ⟨ρ, W, rf, k, E, h, q⟩ => ⟨ρ, W, rf, _, E, h, q.nxt fun ρ' σ' H' W' h' G => then_S E q G h'⟩
theorem s_one (h1 : PS X st (tS X.K s)) : PSs X [st] (tS X.K s) := pss_one h1
theorem s_pass : PS X (.Pass pos) (tS X.K c_nil) := PS.imp ps_pass fun D σ H ⟨ρ, W, rf, k, E, h, q⟩ => q.nx _ _ _ _ h (Go.refl E)
theorem s_brk : PS X (.Break pos) (tS X.K c_brk) := PS.imp ps_break fun D σ H ⟨ρ, W, rf, k, E, h, q⟩ => q.bk _ _ _ _ h (Go.refl E)
theorem s_cont : PS X (.Continue pos) (tS X.K c_cont) := PS.imp ps_continue fun D σ H ⟨ρ, W, rf, k, E, h, q⟩ => q.ct _ _ _ _ h (Go.refl E)
theorem s_never : PS X st (tS X.K c_never) := PS.imp ps_never fun D σ H ⟨ρ, W, rf, k, E, h, q⟩ => h
theorem s_retN : PS X (.Return none pos) (tS X.K c_retN) := PS.imp ps_retN fun D σ H ⟨ρ, W, rf, k, E, h, q⟩ => q.rt _ _ _ _ _ _ h (Go.refl E) .non
theorem s_ret (he : PE X e (tE X.K se)) : PS X (.Return (some e) pos) (tS X.K (c_ret se)) :=
  PS.imp (ps_ret he) fun D σ H ⟨ρ, W, rf, k, E, h, q⟩ => ⟨ρ, W, rf, _, E, h, fun x ρ1 v H1 W1 h1 G1 r1 => by
    obtain ⟨d, ρ2, em, h2⟩ := mvK_of h1
    obtain ⟨W2, G2, rp, _, _⟩ := mv_ok E G1 r1.w em
    exact q.rt _ _ _ _ _ _ h2 G2 rp⟩
theorem s_if {c : Expr} {x y : List Stmt} (hc : PT X c (tT X.K sc)) (ha : PSs X x (tS X.K s)) (hb : PSs X y (tS X.K t)) : PS X (.If c x y pos) (tS X.K (c_ifS sc s t)) :=
  PS.imp (ps_if hc ha hb) fun D σ H ⟨ρ, W, rf, k, E, h, q⟩ => ⟨ρ, W, rf, _, E, h, fun b ρ1 H1 W1 h1 G1 => by
    cases b with
    | true => exact then_S E q G1 h1
    | false => exact then_S E q G1 h1⟩
theorem s_do (he : PE X e (tE X.K se)) (hs : swapsWith e none pos.line X.env = pure false) : PS X (.Expr e pos) (tS X.K (c_do se)) :=
  PS.imp (ps_expr he hs) fun D σ H ⟨ρ, W, rf, k, E, h, q⟩ => ⟨ρ, W, rf, _, E, h, fun x ρ1 v H1 W1 h1 G1 r1 => q.nx _ _ _ _ h1 G1⟩
theorem asg_ok {K : PySem.W.Frag} {rf : List Addr} {σ0 σ : Sg} {H0 H : Hp} {W0 W : AS} {ρ0 ρ : En} {i : Nat} {x : Vl} {v : V} {k : En → Prop} (E0 : EnvR K rf σ0 H0 W0 ρ0) (G : Go K rf σ0 H0 W0 ρ0 σ H W ρ) (r : VlR K rf H0 σ H W ρ v x) (h : asgK i x ρ k) :
    ∃ W' ρ', k ρ' ∧ Go K rf σ0 H0 W0 ρ0 (σ.set i (some v)) H W' ρ' := by
  cases x with
  | dat d => exact ⟨W, _, h, G.store r⟩
  | new o =>
    obtain ⟨a, e, w, ob, n, nr, f⟩ := r
    exact ⟨W, _, h, G.hold e w ob n nr f⟩
  | loc j =>
    have h' : mvK ρ (.loc j) fun d ρ1 => k (ρ1.set i (.val d)) := h
    obtain ⟨d, ρ2, em, h2⟩ := mvK_of h'
    obtain ⟨W2, G2, rp, _, _⟩ := mv_ok E0 G r.w em
    exact ⟨W2, _, h2, G2.store rp⟩
theorem tAsg_of {i : Nat} {D : Ends} {σ : Sg} {H : Hp} (h : tS X.K (c_set i se) D σ H) : tAsg (tE X.K se) (gName i) D σ H := by
  obtain ⟨ρ, W, rf, k, E, h, q⟩ := h
  refine ⟨ρ, W, rf, _, E, h, fun x ρ1 v H1 W1 h1 G1 r1 => ?_⟩
  obtain ⟨W', ρ', hk, G⟩ := asg_ok E G1 r1 h1
  exact q.nx _ _ _ _ hk G
theorem s_set {i : Nat} {x : Str} (hN : X.N.Nodup) (hi : X.N[i]? = some x) (hx : Loc X.env.scope x) (he : PE X e (tE X.K se)) (hs : swapsWith e (some (.Name x pos')) pos.line X.env = pure false) (hf : X.fn x = true ∨ X.env.scope.names.lookup x = some .local) :
    PS X (.Assign [.Name x pos'] e pos) (tS X.K (c_set i se)) := PS.imp (ps_set hN hi hx he hs hf) fun _ _ _ h => tAsg_of h
theorem s_unp {tg : Expr} {g : SG} {vs : List Nat} (he : PE X e (tE X.K se)) (hg : PG X tg (tG X.K vs g)) (hs : swapsWithSole [tg] e pos.line X.env = pure false) (hw : swappedStores [tg] e X.env = pure none)
    (h1 : (assignEach [tg] X.env).map (·.2) = [assign tg X.env]) : PS X (.Assign [tg] e pos) (tS X.K (c_unp g se)) :=
  PS.imp (ps_asg he hg hs hw h1) fun D σ H ⟨ρ, W, rf, k, E, h, q⟩ => ⟨ρ, W, rf, _, E, h, fun x ρ1 v H1 W1 h1 G1 r1 => by
    obtain ⟨d, ρ2, em, h2⟩ := mvK_of h1
    obtain ⟨W2, G2, rp, _, _⟩ := mv_ok E G1 r1.w em
    exact ⟨ρ2, W2, rf, d, _, G2.env, rp, h2, fun ρ' σ' h' G' _ => q.nx _ _ _ _ h' (G2.trans E G')⟩⟩
theorem VlR.stored {K : PySem.W.Frag} {rf : List Addr} {H0 : Hp} {σ : Sg} {H : Hp} {W : AS} {ρ : En} {i : Nat} {v u : V} {x : Vl} {s : Slot} (r : VlR K rf H0 σ H W ρ u x) (hx : ∀ j, x ≠ .loc j)
    (ho : ∀ b o, x = .new o → u = .ref b → Own (σ.set i (some v)) (ρ.set i s) b → Own σ ρ b) : VlR K rf H0 (σ.set i (some v)) H W (ρ.set i s) u x := by
  cases x with
  | dat d => exact r
  | loc j => exact absurd rfl (hx j)
  | new o =>
    obtain ⟨a, e, w, ob, n, nr, f⟩ := r
    exact ⟨a, e, w, ob, fun z => n (ho a o rfl e z), nr, f⟩
theorem own_hold {σ : Sg} {ρ : En} {i : Nat} {t : Nat} {o : OD} {c b : Addr} (h : Own (σ.set i (some (V.ref c))) (ρ.set i (.own t o)) b) : Own σ ρ b ∨ V.ref c = V.ref b := by
  obtain ⟨j, t', q, h1, h2⟩ := h
  by_cases hj : j = i
  · subst hj
    by_cases hlt : j < σ.length
    · rw [List.getElem?_set_self hlt] at h2; cases h2; exact .inr rfl
    · rw [List.getElem?_eq_none (by rw [List.length_set]; omega)] at h2; cases h2
  · rw [List.getElem?_set_ne (Ne.symm hj)] at h1 h2
    exact .inl ⟨j, t', q, h1, h2⟩
theorem s_par {i j : Nat} {x y : Str} {px py pt : Pos} {kt k2 pt2} (hc : X.calm = true) (hN : X.N.Nodup) (hi : X.N[i]? = some x) (hj : X.N[j]? = some y) (hij : i ≠ j)
    (hx : X.env.scope.names.lookup x = some .local) (hy : X.env.scope.names.lookup y = some .local) (ha : PE X a (tE X.K sa)) (hb : PE X b (tE X.K sb))
    (hs1 : starEach [a, b] X.env = (false, eval a X.env) :: starEach [b] X.env) (hs2 : starEach [b] X.env = (false, eval b X.env) :: starEach [] X.env)
    (hw : swappedStores [.Tuple [.Name x px, .Name y py] kt pt] (.Tuple [a, b] k2 pt2) X.env = pure (some [x, y]))
    (hs : swapsWithSole [.Tuple [.Name x px, .Name y py] kt pt] (.Tuple [a, b] k2 pt2) pos.line X.env = pure false) :
    PS X (.Assign [.Tuple [.Name x px, .Name y py] kt pt] (.Tuple [a, b] k2 pt2) pos) (tS X.K (c_par i j sa sb)) :=
  PS.imp (ps_par hc hN hi hj hij hx hy (pa_cons ha (pa_cons hb pa_nil hs2) hs1) hw hs) fun D σ H ⟨ρ, W, rf, k, E, h, q⟩ => ⟨ρ, W, rf, _, E, h, fun x ρ1 v H1 W1 h1 G1 r1 =>
    ⟨ρ1, W1, rf, _, G1.env, h1, fun y ρ2 u H2 W2 ⟨n1, n2, h2⟩ G2 r2 => by
      have G := G1.trans E G2
      have r1' := r1.go G1.env G2
      refine ⟨v, u, rfl, ?_⟩
      have ny : ∀ l, y ≠ .loc l := fun l e => by rw [e] at n2; exact n2
      cases x with
      | loc l => exact n1.elim
      | dat d =>
        have r2' : VlR X.K rf H (σ.set i (some v)) H2 W2 (ρ2.set i (.val d)) u y := (r2.early fun a h => G1.fresh h).stored ny fun b o _ _ h => own_store h
        obtain ⟨W', ρ', hk, G'⟩ := asg_ok E (G.store r1') r2' h2
        exact q.nx _ _ _ _ hk G'
      | new o =>
        obtain ⟨a1, e1, w1, ob1, nO1, nr1, f1⟩ := r1'
        have d1 : H1 a1 ≠ none := by
          obtain ⟨_, e, w, _⟩ := r1
          rw [e1] at e; cases e
          exact G1.env.dom a1 w
        have r2' : VlR X.K rf H (σ.set i (some v)) H2 W2 (ρ2.set i (.own 0 o)) u y := (r2.early fun a h => G1.fresh h).stored ny fun b o' e eu h => by
          subst e1
          rcases own_hold h with h | h
          · exact h
          · subst e
            obtain ⟨a2, e2, _, _, _, _, f2⟩ := r2
            rw [eu] at e2
            cases e2
            cases h
            exact absurd f2 d1
        obtain ⟨W', ρ', hk, G'⟩ := asg_ok E (G.hold e1 w1 ob1 nO1 nr1 f1) r2' h2
        exact q.nx _ _ _ _ hk G'⟩⟩
end
end DL

/-! text E8 -/
set_option Elab.async false
set_option linter.all false
set_option maxRecDepth 100000
set_option maxHeartbeats 1000000
namespace DL
open PySem PySem.Spec PyProof.Rows L2 PySem.SeqAt
open PySem.W (alike alikeAll dataLt dataLe rcLt_alike AllAlike Sortable EachIs)

/-! ### loops -/
section
variable {X : Cx} {tg iter c : Expr} {body : List Stmt} {pos pos' : Pos} {w : SW} {g : SG} {b : SS} {sc : SB} {vs : List Nat}
theorem tFor_of {D : Ends} {σ : Sg} {H : Hp} (h : tS X.K (c_for w g b) D σ H) : tFor (tI X.K w) (tG X.K vs g) (tS X.K b) D σ H := by
  obtain ⟨ρ, W, rf, k, E, h, q⟩ := h
  refine ⟨ρ, W, rf, _, E, h, fun ds ρ1 H1 W1 J ⟨I, i0, it, ie⟩ G1 Y => ?_⟩
  have E1 := G1.env
  refine ⟨fun i m σi Hi => m = ds.length - i ∧ i ≤ ds.length ∧ ∃ Wi ρi, I i ρi ∧ Go X.K rf σ H1 W1 ρ1 σi Hi Wi ρi, ⟨ds.length, by simp, Nat.zero_le _, W1, ρ1, i0, Go.refl E1⟩, ?_⟩
  rintro i m σi Hi ⟨rfl, hi, Wi, ρi, s1, s2⟩
  obtain ⟨y1, y2⟩ := Y Hi Wi (fun a u n e => s2.kp.keep a u (fun z => n (E1.ownW z)) e) s2.grow s2.env.dom
  by_cases hlt : i < ds.length
  · obtain ⟨d, hd⟩ : ∃ d, ds[i]? = some d := ⟨ds[i], by simp [hlt]⟩
    obtain ⟨go, yl⟩ := y1 i d hd
    refine .inr ⟨go, fun σ' H' => ∃ Wi ρi, I (i + 1) ρi ∧ Go X.K rf σ H1 W1 ρ1 σ' H' Wi ρi, fun σ' H' h' => ⟨ds.length - (i + 1), by omega, rfl, hlt, h'⟩, fun x H' hx => ?_⟩
    obtain ⟨sm, rx⟩ := yl x H' hx
    have E3 : EnvR X.K rf σi H' Wi ρi := s2.env.same sm (fun _ h => .inl h) (fun _ h => h) fun a h => Same.dom sm (s2.env.dom a h)
    have G3 : Go X.K rf σ H1 W1 ρ1 σi H' Wi ρi := ⟨E3, ⟨fun a u n e => sm a u (s2.kp.keep a u n e)⟩, fun a h => Same.dom sm (s2.dom a h), s2.grow, s2.lose, s2.osub, s2.osubL⟩
    refine ⟨ρi, Wi, rf, d, _, E3, rx, it i d ρi hd s1, fun ρ3 σ3 h3 G4 _ => ?_⟩
    have G5 := G3.trans E1 G4
    refine ⟨ρ3, Wi, rf, _, G5.env, h3, ?_⟩
    have q1 := q.on E G1
    exact ⟨fun ρ' σ' H' W' hI G' => ⟨W', ρ', hI, G5.trans E1 G'⟩, fun d ρ' σ' v H' W' hr G' r => q1.rt _ _ _ _ _ _ hr (G5.trans E1 G') r, fun ρ' σ' H' W' hk G' => q1.nx _ _ _ _ hk (G5.trans E1 G'), fun ρ' σ' H' W' hI G' => ⟨W', ρ', hI, G5.trans E1 G'⟩⟩
  · have e : i = ds.length := by omega
    subst e
    exact .inl ⟨y2, q.nx _ _ _ _ (ie ρi s1) (G1.trans E s2)⟩
theorem s_for (hp : PassesOwn (model X.prog X.w) X.A X.env X.xe) (hc : X.calm = true) (hi : PI X tg iter (tI X.K w)) (hg : PG X tg (tG X.K vs g)) (hb : PSs X body (tS X.K b)) (hs : ∀ x, foldedSetIterable iter X.env x = pure x) : PS X (.For tg iter body [] pos) (tS X.K (c_for w g b)) :=
  PS.imp (ps_for hp hc hi hg hb hs) fun _ _ _ h => tFor_of h
theorem s_while (hp : PassesOwn (model X.prog X.w) X.A X.env X.xe) (hc : PT X c (tT X.K sc)) (hb : PSs X body (tS X.K b)) : PS X (.While c body [] pos) (tS X.K (c_while sc b)) :=
  PS.imp (ps_while hp hc hb) fun D σ H ⟨ρ, W, rf, k, E, ⟨I, ⟨m0, i0⟩, it⟩, q⟩ => by
    refine ⟨fun m σ' H' => ∃ W' ρ', I m ρ' ∧ Go X.K rf σ H W ρ σ' H' W' ρ', ⟨m0, W, ρ, i0, Go.refl E⟩, ?_⟩
    rintro m σ1 H1 ⟨W1, ρ1, i1, G1⟩
    refine ⟨ρ1, W1, rf, _, G1.env, it m ρ1 i1, fun t ρ2 H2 W2 h2 G2 => ?_⟩
    have G := G1.trans E G2
    cases t with
    | true =>
      refine ⟨fun σ' H' => ∃ m', m' < m ∧ ∃ W' ρ', I m' ρ' ∧ Go X.K rf σ H W ρ σ' H' W' ρ', fun σ' H' h => h, ρ2, W2, rf, _, G.env, h2, ?_⟩
      exact ⟨fun ρ' σ' H' W' ⟨m', hm, hI⟩ G' => ⟨m', hm, W', ρ', hI, G.trans E G'⟩, fun d ρ' σ' v H' W' hr G' r => q.rt _ _ _ _ _ _ hr (G.trans E G') r, fun ρ' σ' H' W' hk G' => q.nx _ _ _ _ hk (G.trans E G'), fun ρ' σ' H' W' ⟨m', hm, hI⟩ G' => ⟨m', hm, W', ρ', hI, G.trans E G'⟩⟩
    | false => exact q.nx _ _ _ _ h2 G
theorem e_lc {elt : Expr} {scope : Scope} {own : List (Str × Nat)} {ifs : List Expr} {t : SB} {se : SE} (hc : X.calm = true) (hN : X.N.Nodup) (hi : PI X tg iter (tI X.K w)) (ok : BlkOk X.N X.env.scope scope own)
    (hg : ∀ (s : Shared) (H : Hp) (C : Addr) (cl : List (Str × Addr)) (fp : List Addr), PG (X.blk s H scope (compEnvC scope cl C X.env) fp) tg (tG X.K (own.map (·.2)) g)) (ht : ∀ (s : Shared) (H : Hp) (C : Addr) (cl : List (Str × Addr)) (fp : List Addr), PTs (X.blk s H scope (compEnvC scope cl C X.env) fp) ifs (tT X.K t))
    (he : ∀ (s : Shared) (H : Hp) (C : Addr) (cl : List (Str × Addr)) (fp : List Addr), PE (X.blk s H scope (compEnvC scope cl C X.env) fp) elt (tE X.K se)) (hs : ∀ x, foldedSetIterable iter X.env x = pure x) :
    PE X (.ListComp elt [⟨tg, iter, ifs, 0⟩] scope pos) (tE X.K (c_lc (own.map (·.2)) w g t se)) :=
  PE.imp (pe_lc hc hN hi ok hg ht he hs) fun _ _ _ h => tLc_of h
theorem s_setLc {i : Nat} {y : Str} {py spos : Pos} {elt : Expr} {scope : Scope} {own : List (Str × Nat)} {ifs : List Expr} {t : SB} {se : SE} (hc : X.calm = true) (hN : X.N.Nodup) (hy : X.N[i]? = some y) (hyl : X.env.scope.names.lookup y = some .local)
    (hsw : swapsWith (.ListComp elt [⟨tg, iter, ifs, 0⟩] scope pos) (some (.Name y py)) spos.line X.env = pure true) (hi : PI X tg iter (tI X.K w)) (ok : BlkOk X.N X.env.scope scope own)
    (hg : ∀ (s : Shared) (H : Hp) (C : Addr) (cl : List (Str × Addr)) (fp : List Addr), PG (X.blk s H scope (compEnvC scope cl C X.env) fp) tg (tG X.K (own.map (·.2)) g)) (ht : ∀ (s : Shared) (H : Hp) (C : Addr) (cl : List (Str × Addr)) (fp : List Addr), PTs (X.blk s H scope (compEnvC scope cl C X.env) fp) ifs (tT X.K t))
    (he : ∀ (s : Shared) (H : Hp) (C : Addr) (cl : List (Str × Addr)) (fp : List Addr), PE (X.blk s H scope (compEnvC scope cl C X.env) fp) elt (tE X.K se)) (hs : ∀ x, foldedSetIterable iter X.env x = pure x) :
    PS X (.Assign [.Name y py] (.ListComp elt [⟨tg, iter, ifs, 0⟩] scope pos) spos) (tS X.K (c_set i (c_lc (own.map (·.2)) w g t se))) :=
  PS.imp (ps_setLc hc hN hy hyl hsw hi ok hg ht he hs) fun D σ H h => by
    obtain ⟨ρ, W, rf, k, E, h, q⟩ := tAsg_of h
    exact tLc_of ⟨ρ, W, rf, k, E, h, q⟩
end

/-! ### a name's own list is changed -/
section
variable {K : PySem.W.Frag} {rf : List Addr} {σ σ0 : Sg} {H H0 : Hp} {W W0 : AS} {ρ ρ0 : En} {a : Addr}
theorem Go.write {i t : Nat} {o o' : OD} {u : HO} (E0 : EnvR K rf σ0 H0 W0 ρ0) (G : Go K rf σ0 H0 W0 ρ0 σ H W ρ) (hi : ρ[i]? = some (.own t o)) (ha : σ[i]? = some (some (.ref a))) (ob : ObjR K (upd H a u) W a o') : Go K rf σ0 H0 W0 ρ0 σ (upd H a u) W (ρ.set i (.own t o')) := by
  have E := G.env
  have hlt : i < ρ.length := (List.getElem?_eq_some_iff.mp hi).1
  have w : W a := E.ownW ⟨i, t, o, hi, ha⟩
  have dd : ∀ b, H b ≠ none → upd H a u b ≠ none := fun b h => by
    by_cases z : b = a
    · rw [z, upd_same]; simp
    · rw [upd_ne z]; exact h
  have kp : Kp (fun b => b = a) H (upd H a u) := ⟨fun b u z e => by rw [upd_ne z]; exact e⟩
  have at_ : ∀ {j t' : Nat} {q : OD}, (ρ.set i (.own t o'))[j]? = some (.own t' q) → (j = i ∧ t' = t ∧ q = o') ∨ (j ≠ i ∧ ρ[j]? = some (.own t' q)) := fun {j t' q} h => by
    by_cases hj : j = i
    · subst hj
      rw [List.getElem?_set_self hlt] at h
      cases h
      exact .inl ⟨rfl, rfl, rfl⟩
    · rw [List.getElem?_set_ne (Ne.symm hj)] at h
      exact .inr ⟨hj, h⟩
  have own_ : ∀ b, Own σ (ρ.set i (.own t o')) b → Own σ ρ b := fun b ⟨j, t', q, h1, h2⟩ => by
    rcases at_ h1 with ⟨rfl, rfl, rfl⟩ | ⟨_, h3⟩
    · exact ⟨_, _, o, hi, h2⟩
    · exact ⟨j, t', q, h3, h2⟩
  have ownL_ : ∀ b, OwnL σ (ρ.set i (.own t o')) b → OwnL σ ρ b := fun b ⟨j, q, h1, h2⟩ => by
    rcases at_ h1 with ⟨rfl, rfl, rfl⟩ | ⟨_, h3⟩
    · exact ⟨_, o, hi, h2⟩
    · exact ⟨j, q, h3, h2⟩
  refine ⟨⟨by rw [List.length_set]; exact E.len, fun b h => dd b (E.dom b h), fun b h => dd b (E.rfd b h), fun j d h => ?_, fun j t' q h => ?_, fun j l t1 t2 q1 q2 b h1 h2 h3 h4 => ?_⟩, ⟨fun b u' n e => ?_⟩, fun b h => dd b (G.dom b h), G.grow, G.lose, fun b h => G.osub b (own_ b h), fun b h => G.osubL b (ownL_ b h)⟩
  · by_cases hj : j = i
    · subst hj; rw [List.getElem?_set_self hlt] at h; cases h
    · rw [List.getElem?_set_ne (Ne.symm hj)] at h
      obtain ⟨v, e, r⟩ := E.val j d h
      exact ⟨v, e, r.upd w⟩
  · obtain ⟨b, e, w', _, t1, t2⟩ := E.own i t o hi
    rw [ha] at e; cases e
    rcases at_ h with ⟨rfl, rfl, rfl⟩ | ⟨hj, h3⟩
    · exact ⟨a, ha, w, ob, t1, t2⟩
    · obtain ⟨b, e, w', r, u1, u2⟩ := E.own j t' q h3
      refine ⟨b, e, w', r.mono kp (fun b z => by rw [z]; exact w) (fun _ h => .inl h) fun z => ?_, u1, u2⟩
      subst z
      exact hj (E.inj j i _ _ _ _ _ h3 hi e ha)
  · rcases at_ h1 with ⟨rfl, _, _⟩ | ⟨_, k1⟩
    · rcases at_ h2 with ⟨rfl, _, _⟩ | ⟨_, k2⟩
      · rfl
      · exact E.inj _ _ _ _ _ _ _ hi k2 h3 h4
    · rcases at_ h2 with ⟨rfl, _, _⟩ | ⟨_, k2⟩
      · exact E.inj _ _ _ _ _ _ _ k1 hi h3 h4
      · exact E.inj _ _ _ _ _ _ _ k1 k2 h3 h4
  · have z : b ≠ a := fun z => by
      subst z
      rcases G.osub b ⟨i, t, o, hi, ha⟩ with z | z
      · exact n z
      · rw [e] at z; cases z
    rw [upd_ne z]
    exact G.kp.keep b u' n e
end
/-- slot i is a list of one's own -/
def ownK (ρ : En) (i : Nat) (k : Nat → List Dat → Prop) : Prop := match ρ[i]? with
  | some (.own t (.lst ds)) => k t ds
  | _ => False
theorem ownK_of {ρ : En} {i : Nat} {k : Nat → List Dat → Prop} (h : ownK ρ i k) : ∃ t ds, ρ[i]? = some (.own t (.lst ds)) ∧ k t ds := by
  unfold ownK at h
  split at h
  · rename_i t ds e; exact ⟨t, ds, e, h⟩
  · exact h.elim
def c_app (i : Nat) (e : SE) : SS := fun k ρ => ownK ρ i fun _ _ => e ρ fun x ρ1 => mvK ρ1 x fun d ρ2 => ownK ρ2 i fun t ds => ds.length < 16777216 ∧ k.nx (ρ2.set i (.own t (.lst (ds ++ [d]))))
def asList (k : List Dat → Prop) : Dat → Prop := fun d => match d with
  | .list ds => k ds
  | _ => False
def c_ext (i : Nat) (e : SE) : SS := fun k ρ => ownK ρ i fun _ _ => e ρ fun x ρ1 => mvK ρ1 x fun d ρ2 => ownK ρ2 i fun t ds => asList (fun es => ds.length + es.length ≤ 16777216 ∧ k.nx (ρ2.set i (.own t (.lst (ds ++ es))))) d
def asInt (k : Int → Prop) : Vl → Prop := fun x => match x with
  | .dat (.int i) => k i
  | _ => False
theorem asInt_of {k : Int → Prop} {x : Vl} (h : asInt k x) : ∃ i, x = .dat (.int i) ∧ k i := by
  unfold asInt at h
  split at h
  · exact ⟨_, rfl, h⟩
  · exact h.elim
def c_seti (i : Nat) (j e : SE) : SS := fun k ρ => e ρ fun x ρ1 => ownK ρ1 i fun _ _ => j ρ1 fun y ρ2 => asInt (fun n => mvK ρ2 x fun d ρ3 => ownK ρ3 i fun t ds => ∃ m, ixN ds.length n = some m ∧ k.nx (ρ3.set i (.own t (.lst (ds.set m d))))) y
def c_popA (i : Nat) (e : SE) : SE := fun ρ k => ownK ρ i fun _ _ => e ρ fun x ρ1 => asInt (fun n => ownK ρ1 i fun t ds => ∃ m, ixN ds.length n = some m ∧ ∃ d, ds[m]? = some d ∧ ds.length ≤ 16777216 ∧ k (.dat d) (ρ1.set i (.own t (.lst (ds.eraseIdx m))))) x
def c_pop0 (i : Nat) : SE := fun ρ k => ownK ρ i fun t ds => ∃ d, ds[ds.length - 1]? = some d ∧ k (.dat d) (ρ.set i (.own t (.lst ds.dropLast)))
section
variable {X : Cx} {e o : Expr} {x : Str} {pos npos apos cpos : Pos} {i : Nat} {se sj : SE}
theorem c_var_own {ρ : En} {k : Vl → En → Prop} {t : Nat} {ds : List Dat} (h : ρ[i]? = some (.own t (.lst ds))) (hk : k (.loc i) ρ) : c_var i ρ k := by
  unfold c_var
  rw [h]
  exact hk
theorem own_at {K : PySem.W.Frag} {rf : List Addr} {σ : Sg} {H : Hp} {W : AS} {ρ : En} {t : Nat} {ds : List Dat} (E : EnvR K rf σ H W ρ) (h : ρ[i]? = some (.own t (.lst ds))) : ∃ a xs, σ[i]? = some (some (.ref a)) ∧ H a = some (.lst xs) ∧ RpAll K H W xs ds ∧ W a := by
  obtain ⟨a, e, w, ⟨xs, h1, h2⟩, _⟩ := E.own i t _ h
  exact ⟨a, xs, e, h1, h2, w⟩
theorem s_app (ho : PE X o (tVar i)) (he : PE X e (tE X.K se)) (hbase : attributeBase o "append" X.env (eval o X.env) = eval o X.env)
    (hfew : ((backTo cpos (starEach [e] X.env)).all (fun x => !x.1) && (backToKw cpos (keywordEach [] X.env)).all (fun x => x.1.isSome) && decide ([e].length + ([] : List Keyword).length + (if ([] : List Keyword).isEmpty then 0 else 1) < 30)) = true)
    (hline : (apos.endLine == cpos.line) = true) (hs : starEach [e] X.env = (false, eval e X.env) :: starEach [] X.env) (hplain : (backTo cpos (starEach [] X.env)).any (·.1) = false)
    (hsw : swapsWith (.Call (.Attribute o "append" apos) [e] [] cpos) none pos.line X.env = pure false) : PS X (.Expr (.Call (.Attribute o "append" apos) [e] [] cpos) pos) (tS X.K (c_app i se)) :=
  PS.imp (ps_expr (pe_bm PySem.F.plainAttrs_list PySem.F.slot_list_append PySem.F.type_list_append mt_append ho (pa_cons he pa_nil hs) hbase hfew hline hs hplain) hsw) fun D σ H ⟨ρ, W, rf, k, E, h, q⟩ => by
    obtain ⟨t, ds, e0, h⟩ := ownK_of h
    obtain ⟨a, xs, ea, ha, ra, _⟩ := own_at E e0
    refine ⟨_, ea, .inl ⟨rfl, xs, SqL.of ha⟩, ρ, W, rf, _, E, h, fun x ρ1 v H1 W1 h1 G1 r1 => ?_⟩
    obtain ⟨d, ρ2, em, h2⟩ := mvK_of h1
    obtain ⟨W2, G2, rp, _, _⟩ := mv_ok E G1 r1.w em
    obtain ⟨t2, ds2, e2, hz, hk⟩ := ownK_of h2
    obtain ⟨b, ys, eb, hb, rb, wb⟩ := own_at G2.env e2
    rw [ea] at eb; cases eb
    exact ⟨a, ys, v, rfl, rfl, hb, by rw [rb.length, sizeLine_eq]; exact hz, q.nx _ _ _ _ hk (G2.write E e2 ea ⟨_, upd_same, (rb.append (.cons rp .nil)).upd wb⟩)⟩
theorem s_ext (ho : PE X o (tVar i)) (he : PE X e (tE X.K se)) (hbase : attributeBase o "extend" X.env (eval o X.env) = eval o X.env)
    (hfew : ((backTo cpos (starEach [e] X.env)).all (fun x => !x.1) && (backToKw cpos (keywordEach [] X.env)).all (fun x => x.1.isSome) && decide ([e].length + ([] : List Keyword).length + (if ([] : List Keyword).isEmpty then 0 else 1) < 30)) = true)
    (hline : (apos.endLine == cpos.line) = true) (hs : starEach [e] X.env = (false, eval e X.env) :: starEach [] X.env) (hplain : (backTo cpos (starEach [] X.env)).any (·.1) = false)
    (hsw : swapsWith (.Call (.Attribute o "extend" apos) [e] [] cpos) none pos.line X.env = pure false) : PS X (.Expr (.Call (.Attribute o "extend" apos) [e] [] cpos) pos) (tS X.K (c_ext i se)) :=
  PS.imp (ps_expr (pe_bm PySem.F.plainAttrs_list PySem.F.slot_list_extend PySem.F.type_list_extend mt_extend ho (pa_cons he pa_nil hs) hbase hfew hline hs hplain) hsw) fun D σ H ⟨ρ, W, rf, k, E, h, q⟩ => by
    obtain ⟨t, ds, e0, h⟩ := ownK_of h
    obtain ⟨a, xs, ea, ha, ra, _⟩ := own_at E e0
    refine ⟨_, ea, .inl ⟨rfl, xs, SqL.of ha⟩, ρ, W, rf, _, E, h, fun x ρ1 v H1 W1 h1 G1 r1 => ?_⟩
    obtain ⟨d, ρ2, em, h2⟩ := mvK_of h1
    obtain ⟨W2, G2, rp, _, _⟩ := mv_ok E G1 r1.w em
    obtain ⟨t2, ds2, e2, h3⟩ := ownK_of h2
    obtain ⟨b, ys, eb, hb, rb, wb⟩ := own_at G2.env e2
    rw [ea] at eb; cases eb
    cases d <;> first | exact False.elim h3 | skip
    cases rp with
    | lst hl rl =>
      exact ⟨a, _, ys, _, rfl, rfl, hb, hl.2, by rw [rb.length, rl.length, sizeLine_eq]; exact h3.1, q.nx _ _ _ _ h3.2 (G2.write E e2 ea ⟨_, upd_same, (rb.append rl).upd wb⟩)⟩
theorem s_seti {ix v : Expr} {spos tpos : Pos} {sv : SE} (ho : PE X o (tVar i)) (hi : PE X ix (tE X.K sj)) (hv : PE X v (tE X.K sv))
    (ha : ∀ u, assign (.Subscript o ix tpos) X.env u = (do
      let ov ← holding [u] (eval o X.env)
      let iv ← holding [u, ov] (eval ix X.env)
      standAt tpos
      holding [u, ov, iv] (setItem ov iv u)
      release [u, ov, iv] []))
    (hs : swapsWithSole [.Subscript o ix tpos] v spos.line X.env = pure false) (hw : swappedStores [.Subscript o ix tpos] v X.env = pure none) (h1 : (assignEach [.Subscript o ix tpos] X.env).map (·.2) = [assign (.Subscript o ix tpos) X.env]) :
    PS X (.Assign [.Subscript o ix tpos] v spos) (tS X.K (c_seti i sj sv)) :=
  PS.imp (ps_asg hv (pg_sub ho hi set_list ha) hs hw h1) fun D σ H ⟨ρ, W, rf, k, E, h, q⟩ => ⟨ρ, W, rf, _, E, h, fun x ρ1 v H1 W1 h1 G1 r1 => by
    obtain ⟨t, ds, e0, h1⟩ := ownK_of h1
    obtain ⟨a, xs, ea, ha, ra, _⟩ := own_at G1.env e0
    refine ⟨_, ea, ρ1, W1, rf, _, G1.env, h1, fun y ρ2 u H2 W2 h2 G2 r2 => ?_⟩
    obtain ⟨n, rfl, h2'⟩ := asInt_of h2
    have r2 : Rp X.K H2 W2 u (.int n) := r2
    cases r2
    have G := G1.trans E G2
    obtain ⟨d, ρ3, em, h3⟩ := mvK_of h2'
    obtain ⟨W3, G3, rp, _, _⟩ := mv_ok E G (r1.go G1.env G2).w em
    obtain ⟨t2, ds2, e2, m, hm, hk⟩ := ownK_of h3
    obtain ⟨b, ys, eb, hb, rb, wb⟩ := own_at G3.env e2
    rw [ea] at eb; cases eb
    exact ⟨a, ys, n, m, rfl, rfl, hb, by rw [rb.length]; exact hm, q.nx _ _ _ _ hk (G3.write E e2 ea ⟨_, upd_same, (rb.set rp m).upd wb⟩)⟩⟩
theorem e_popA (ho : PE X o (tVar i)) (he : PE X e (tE X.K se)) (hbase : attributeBase o "pop" X.env (eval o X.env) = eval o X.env)
    (hfew : ((backTo cpos (starEach [e] X.env)).all (fun x => !x.1) && (backToKw cpos (keywordEach [] X.env)).all (fun x => x.1.isSome) && decide ([e].length + ([] : List Keyword).length + (if ([] : List Keyword).isEmpty then 0 else 1) < 30)) = true)
    (hline : (apos.endLine == cpos.line) = true) (hs : starEach [e] X.env = (false, eval e X.env) :: starEach [] X.env) (hplain : (backTo cpos (starEach [] X.env)).any (·.1) = false) :
    PE X (.Call (.Attribute o "pop" apos) [e] [] cpos) (tE X.K (c_popA i se)) :=
  PE.imp (pe_bm PySem.F.plainAttrs_list PySem.F.slot_list_pop PySem.F.type_list_pop mt_popAt ho (pa_cons he pa_nil hs) hbase hfew hline hs hplain) fun σ H Q ⟨ρ, W, rf, k, E, h, q⟩ => by
    obtain ⟨t, ds, e0, h⟩ := ownK_of h
    obtain ⟨a, xs, ea, ha, ra, _⟩ := own_at E e0
    refine ⟨_, ea, .inl ⟨rfl, xs, SqL.of ha⟩, ρ, W, rf, _, E, h, fun x ρ1 v H1 W1 h1 G1 r1 => ?_⟩
    obtain ⟨n, rfl, h1'⟩ := asInt_of h1
    have r1 : Rp X.K H1 W1 v (.int n) := r1
    cases r1
    obtain ⟨t2, ds2, e2, m, hm, d, hd, hz, hk⟩ := ownK_of h1'
    obtain ⟨b, ys, eb, hb, rb, wb⟩ := own_at G1.env e2
    rw [ea] at eb; cases eb
    obtain ⟨u, hu, ru⟩ := rb.get hd
    obtain ⟨c1, c2, c3, c4⟩ := ixN_seq hm
    have hl := rb.length
    exact ⟨a, ys, n, m, u, rfl, rfl, hb, by omega, by omega, by rw [hl]; exact c1, hu, q _ _ _ _ _ hk (G1.write E e2 ea ⟨_, upd_same, (rb.eraseIdx m).upd wb⟩) (Rp.upd wb ru)⟩
theorem e_pop0 (ho : PE X o (tVar i)) (hbase : attributeBase o "pop" X.env (eval o X.env) = eval o X.env) (hline : (apos.endLine == cpos.line) = true) : PE X (.Call (.Attribute o "pop" apos) [] [] cpos) (tE X.K (c_pop0 i)) :=
  PE.imp (pe_bm0 PySem.F.plainAttrs_list PySem.F.slot_list_pop PySem.F.type_list_pop mt_pop ho hbase hline) fun σ H Q ⟨ρ, W, rf, k, E, h, q⟩ => by
    obtain ⟨t, ds, e0, d, hd, hk⟩ := ownK_of h
    obtain ⟨a, xs, ea, ha, ra, wa⟩ := own_at E e0
    rw [← ra.length] at hd
    obtain ⟨u, hu, ru⟩ := ra.get hd
    exact ⟨_, ea, .inl ⟨rfl, xs, SqL.of ha⟩, a, xs, u, rfl, rfl, ha, hu, q _ _ _ _ _ hk ((Go.refl E).write E e0 ea ⟨_, upd_same, ra.dropLast.upd wa⟩) (Rp.upd wa ru)⟩
/-- x += e -/
theorem s_aug {op : Operator} {f : F2} (hN : X.N.Nodup) (hi : X.N[i]? = some x) (hx : Loc X.env.scope x) (hf : X.fn x = true ∨ X.env.scope.names.lookup x = some .local) (he : PE X e (tE X.K se)) (ho : OpR X (inplaceOp op) (rB X.K f)) :
    PS X (.AugAssign (.Name x npos) op e pos) (tS X.K (c_aug i f se)) :=
  PS.imp (ps_aug (ti := rB X.K f) hN hi hx he ho hf) fun D σ H ⟨ρ, W, rf, k, E, h, q⟩ => by
    unfold c_aug at h
    split at h
    · rename_i d e0
      obtain ⟨v, ev, rv⟩ := E.val i d e0
      refine ⟨v, ev, ρ, W, rf, _, E, h, fun y ρ1 u H1 W1 h1 G1 r1 => ?_⟩
      obtain ⟨e', ee, h1⟩ := rdK_of h1
      refine ⟨W1, d, e', _, G1.env.dom, .plain (Rp.mono G1.kp (fun _ z => E.ownW z) G1.grow rv), r1.rd G1.env ee, h1, fun z w H2 kz pr => ?_⟩
      obtain ⟨W3, G3, r3⟩ := pres_go E G1 pr
      obtain ⟨W', ρ', hk, G⟩ := asg_ok E G3 r3 kz
      exact q.nx _ _ _ _ hk G
    · exact h.elim
def bIAdd : F2
  | .int i, .int j, k => k (.dat (.int (i + j)))
  | .str x, .str y, k => x.length + y.length ≤ 16777216 ∧ k (.dat (.str (x ++ y)))
  | _, _, _ => False
def bIMul : F2
  | .int i, .int j, k => CMul i j ∧ k (.dat (.int (i * j)))
  | _, _, _ => False
theorem o_iadd : OpR X (inplaceOp .Add) (rB X.K bIAdd) := by
  refine OpR.imp (iop_add.or iop_add_str) fun x y H Q ⟨W, d, e, P, dm, r1, r2, h, q⟩ => ?_
  cases d <;> cases e <;> first | exact False.elim h | skip
  · cases r1.int
    cases r2.int
    exact .inl ⟨_, _, rfl, rfl, q _ _ _ h ⟨Same.refl _, .int _⟩⟩
  · cases r1.str
    cases r2.str
    exact .inr ⟨_, _, rfl, rfl, by rw [sizeLine_eq]; exact h.1, q _ _ _ h.2 ⟨Same.refl _, .str _⟩⟩
theorem o_isub : OpR X (inplaceOp .Sub) (rB X.K bSub) := OpR.imp iop_sub fun x y H Q h => by
  obtain ⟨i, j, h1, h2, _, h3⟩ := rB_I (g := fun i j => i - j) (C := fun _ _ => True) (fun d e P h => by
    cases d <;> cases e <;> first | exact False.elim h | exact ⟨_, _, rfl, rfl, trivial, h⟩) h
  exact ⟨i, j, h1, h2, h3⟩
theorem o_imul : OpR X (inplaceOp .Mult) (rB X.K bIMul) := OpR.imp iop_mul fun x y H Q h => rB_I (fun d e P h => by
    cases d <;> cases e <;> first | exact False.elim h | exact ⟨_, _, rfl, rfl, h.1, h.2⟩) h
end
end DL

/-! text E9 -/
set_option Elab.async false
set_option linter.all false
set_option maxRecDepth 100000
set_option maxHeartbeats 1000000
namespace DL
open PySem PySem.Spec PyProof.Rows L2 PySem.SeqAt
open PySem.W (alike alikeAll dataLt dataLe rcLt_alike AllAlike Sortable EachIs)

/-! ### what a def does -/
inductive Arg where
  | val (d : Dat)
  | ref (o : OD)
abbrev Spec := List Arg → (Dat → List OD → Prop) → Prop
inductive ArgsR (K : PySem.W.Frag) (H : Hp) (W : AS) : List V → List Arg → List Addr → Prop
  | nil : ArgsR K H W [] [] []
  | val {v : V} {d : Dat} {vs : List V} {as : List Arg} {ra : List Addr} : Rp K H W v d → ArgsR K H W vs as ra → ArgsR K H W (v :: vs) (.val d :: as) ra
  | ref {a : Addr} {o : OD} {vs : List V} {as : List Arg} {ra : List Addr} : W a → ObjR K H W a o → ArgsR K H W vs as ra → ArgsR K H W (.ref a :: vs) (.ref o :: as) (a :: ra)
inductive OutsR (K : PySem.W.Frag) (H : Hp) (W : AS) : List Addr → List OD → Prop
  | nil : OutsR K H W [] []
  | cons {a : Addr} {o : OD} {ra : List Addr} {os : List OD} : ObjR K H W a o → OutsR K H W ra os → OutsR K H W (a :: ra) (o :: os)
def spOf (K : PySem.W.Frag) (F : Spec) : Sp := fun vs H Q _ => ∃ (W : AS) (args : List Arg) (ra : List Addr) (k : Dat → List OD → Prop), (∀ a, W a → H a ≠ none) ∧ ArgsR K H W vs args ra ∧ ra.Nodup ∧ F args k ∧
  ∀ d outs v H' W', k d outs → (∀ a u, a ∉ ra → H a = some u → H' a = some u) → (∀ a, H a ≠ none → H' a ≠ none) → (∀ a, W a → W' a) → (∀ a, W' a → W a ∨ H a = none) → (∀ a, W' a → H' a ≠ none) → OutsR K H' W' ra outs → Rp K H' W' v d → Q v H'

/-! ### a call without names given along -/
def c_call (F : Spec) (s : SA) : SE := fun ρ k => s ρ fun xs ρ1 => mvsK ρ1 xs fun ds ρ2 => F (ds.map .val) fun d _ => k (.dat d) ρ2
/-- .. with some names whose own objects the def may change -/
inductive PArg where
  | v (d : Dat)
  | r (i : Nat)
def pargsK (ρ : En) : List Vl → List Bool → (List PArg → En → Prop) → Prop
  | [], [], k => k [] ρ
  | x :: xs, false :: fs, k => mvK ρ x fun d ρ1 => pargsK ρ1 xs fs fun as ρ2 => k (.v d :: as) ρ2
  | .loc i :: xs, true :: fs, k => pargsK ρ xs fs fun as ρ2 => k (.r i :: as) ρ2
  | _, _, _ => False
def fillK (ρ : En) : List PArg → (List Arg → Prop) → Prop
  | [], k => k []
  | .v d :: ps, k => fillK ρ ps fun as => k (.val d :: as)
  | .r i :: ps, k => match ρ[i]? with
    | some (.own _ o) => fillK ρ ps fun as => k (.ref o :: as)
    | _ => False
def refsOf : List PArg → List Nat
  | [] => []
  | .v _ :: ps => refsOf ps
  | .r i :: ps => i :: refsOf ps
def backK (ρ : En) : List Nat → List OD → (En → Prop) → Prop
  | [], [], k => k ρ
  | i :: is, o :: os, k => match ρ[i]? with
    | some (.own t _) => backK (ρ.set i (.own t o)) is os k
    | _ => False
  | _, _, _ => False
def c_callR (F : Spec) (fs : List Bool) (s : SA) : SE := fun ρ k => s ρ fun xs ρ1 => pargsK ρ1 xs fs fun ps ρ2 => fillK ρ2 ps fun args => (refsOf ps).Nodup ∧ F args fun d outs => backK ρ2 (refsOf ps) outs fun ρ3 => k (.dat d) ρ3

section
variable {K : PySem.W.Frag} {rf : List Addr} {σ σ0 : Sg} {H H0 H' : Hp} {W W0 W' : AS} {ρ ρ0 ρ' : En}
theorem argsR_vals : ∀ {vs : List V} {ds : List Dat}, RpAll K H W vs ds → ArgsR K H W vs (ds.map .val) []
  | _, _, .nil => .nil
  | _, _, .cons h r => .val h (argsR_vals r)
/-- the slots that are given along -/
inductive PArgsR (K : PySem.W.Frag) (σ : Sg) (H : Hp) (W : AS) : List V → List PArg → Prop
  | nil : PArgsR K σ H W [] []
  | v {v : V} {d : Dat} {vs : List V} {ps : List PArg} : Rp K H W v d → PArgsR K σ H W vs ps → PArgsR K σ H W (v :: vs) (.v d :: ps)
  | r {v : V} {i : Nat} {vs : List V} {ps : List PArg} : σ[i]? = some (some v) → PArgsR K σ H W vs ps → PArgsR K σ H W (v :: vs) (.r i :: ps)
theorem PArgsR.sub {vs : List V} {ps : List PArg} (s : ∀ a, W' a → W a) (r : PArgsR K σ H W vs ps) : PArgsR K σ H W' vs ps := by
  induction r with
  | nil => exact .nil
  | v h _ ih => exact .v (h.sub fun a z => .inl (s a z)) ih
  | r h _ ih => exact .r h ih
theorem pargs_ok (E0 : EnvR K rf σ0 H0 W0 ρ0) : ∀ {vs : List V} {xs : List Vl} {fs : List Bool} {W : AS} {ρ : En} {k : List PArg → En → Prop}, Go K rf σ0 H0 W0 ρ0 σ H W ρ → VlsW K rf H0 σ H W ρ vs xs → pargsK ρ xs fs k →
    ∃ W' ρ' ps, Go K rf σ0 H0 W0 ρ0 σ H W' ρ' ∧ PArgsR K σ H W' vs ps ∧ (∀ a, W' a → W a) ∧ k ps ρ'
  | _, _, fs, W, ρ, k, G, .nil, h => by
    cases fs with
    | nil => exact ⟨W, ρ, [], G, .nil, fun _ h => h, h⟩
    | cons f fs => exact False.elim (by simpa [pargsK] using h)
  | _, _, fs, W, ρ, k, G, .cons (x := x) (xs := xs) r rs, h => by
    cases fs with
    | nil => exact False.elim (by cases x <;> simpa [pargsK] using h)
    | cons f fs =>
      cases f with
      | false =>
        have h : mvK ρ x fun d ρ1 => pargsK ρ1 xs fs fun as ρ2 => k (.v d :: as) ρ2 := by cases x <;> exact h
        obtain ⟨d, ρ1, em, h⟩ := mvK_of h
        obtain ⟨W1, G1, r1, s1, k1⟩ := mv_ok E0 G r em
        obtain ⟨W2, ρ2, ps, G2, r2, s2, hk⟩ := pargs_ok E0 G1 (rs.imp k1) h
        exact ⟨W2, ρ2, _, G2, .v (r1.sub fun a z => .inl (s2 a z)) r2, fun a z => s1 a (s2 a z), hk⟩
      | true =>
        cases x with
        | dat d => exact False.elim (by simpa [pargsK] using h)
        | new d => exact False.elim (by simpa [pargsK] using h)
        | loc i =>
          obtain ⟨W2, ρ2, ps, G2, r2, s2, hk⟩ := pargs_ok E0 G rs (show pargsK ρ xs fs fun as ρ2 => k (.r i :: as) ρ2 from h)
          exact ⟨W2, ρ2, _, G2, .r r r2, s2, hk⟩
theorem fill_ok (E : EnvR K rf σ H W ρ) : ∀ {vs : List V} {ps : List PArg} {k : List Arg → Prop}, PArgsR K σ H W vs ps → fillK ρ ps k → ∃ args ra, k args ∧ ArgsR K H W vs args ra ∧ Paired (fun i a => (∃ t o, ρ[i]? = some (.own t o)) ∧ σ[i]? = some (some (V.ref a))) (refsOf ps) ra
  | _, _, k, .nil, h => ⟨[], [], h, .nil, .nil⟩
  | _, _, k, .v hd r, h => by
    obtain ⟨args, ra, hk, h1, h2⟩ := fill_ok E r (show fillK ρ _ fun as => k (.val _ :: as) from h)
    exact ⟨_, ra, hk, .val hd h1, h2⟩
  | _, _, k, .r (i := i) hv r, h => by
    simp only [fillK] at h
    split at h
    · rename_i t o e
      obtain ⟨a, ea, w, ob, _⟩ := E.own i t o e
      rw [hv] at ea; cases ea
      obtain ⟨args, ra, hk, h1, h2⟩ := fill_ok E r h
      exact ⟨_, a :: ra, hk, .ref w ob h1, .cons ⟨⟨t, o, e⟩, hv⟩ h2⟩
    · exact h.elim
theorem paired_mem {α β : Type} {R : α → β → Prop} : ∀ {l : List α} {m : List β}, Paired R l m → ∀ b ∈ m, ∃ a ∈ l, R a b
  | _, _, .nil, _, h => by simp at h
  | _, _, .cons r t, b, h => by
    rcases List.mem_cons.mp h with rfl | h
    · exact ⟨_, List.mem_cons_self, r⟩
    · obtain ⟨a, ha, hr⟩ := paired_mem t b h
      exact ⟨a, List.mem_cons_of_mem _ ha, hr⟩
theorem refs_nodup (E : EnvR K rf σ H W ρ) : ∀ {is : List Nat} {ra : List Addr}, Paired (fun i a => (∃ t o, ρ[i]? = some (.own t o)) ∧ σ[i]? = some (some (V.ref a))) is ra → is.Nodup → ra.Nodup
  | _, _, .nil, _ => List.nodup_nil
  | _, _, .cons (a := i) ⟨⟨t, o, e⟩, ea⟩ r, n => by
    obtain ⟨n1, n2⟩ := List.nodup_cons.mp n
    refine List.nodup_cons.mpr ⟨fun hm => ?_, refs_nodup E r n2⟩
    obtain ⟨j, hj, ⟨u, q, ej⟩, eja⟩ := paired_mem r _ hm
    have := E.inj i j _ _ _ _ _ e ej ea eja
    exact n1 (this ▸ hj)
/-- the objects given along hold new things -/
theorem back_of : ∀ {is : List Nat} {outs : List OD} {ρ : En} {k : En → Prop}, is.Nodup → backK ρ is outs k →
    ∃ ρ', k ρ' ∧ ρ'.length = ρ.length ∧ (∀ j, j ∉ is → ρ'[j]? = ρ[j]?) ∧ Paired (fun i o => ∃ t o0, ρ[i]? = some (Slot.own t o0) ∧ ρ'[i]? = some (Slot.own t o)) is outs
  | [], [], ρ, k, _, h => ⟨ρ, h, rfl, fun _ _ => rfl, .nil⟩
  | [], _ :: _, ρ, k, _, h => by simp [backK] at h
  | _ :: _, [], ρ, k, _, h => by simp [backK] at h
  | i :: is, o :: os, ρ, k, n, h => by
    obtain ⟨n1, n2⟩ := List.nodup_cons.mp n
    simp only [backK] at h
    split at h
    · rename_i t o0 e
      have hlt : i < ρ.length := (List.getElem?_eq_some_iff.mp e).1
      obtain ⟨ρ', hk, hl, ho, hp⟩ := back_of n2 h
      refine ⟨ρ', hk, by rw [hl, List.length_set], fun j hj => ?_, .cons ⟨t, o0, e, ?_⟩ ?_⟩
      · rw [ho j fun z => hj (List.mem_cons_of_mem _ z), List.getElem?_set_ne fun z => hj (by rw [← z]; exact List.mem_cons_self)]
      · rw [ho i n1, List.getElem?_set_self hlt]
      · clear hk ho hl h n n2
        induction hp with
        | nil => exact .nil
        | cons h _ ih =>
          obtain ⟨u, q, e1, e2⟩ := h
          have ne : i ≠ _ := fun z => n1 (by rw [z]; exact List.mem_cons_self)
          rw [List.getElem?_set_ne ne] at e1
          exact .cons ⟨u, q, e1, e2⟩ (ih fun z => n1 (List.mem_cons_of_mem _ z))
    · exact h.elim
theorem back_at {ρ ρ' : En} : ∀ {is : List Nat} {ra : List Addr} {outs : List OD}, Paired (fun i a => (∃ t o, ρ[i]? = some (Slot.own t o)) ∧ σ[i]? = some (some (V.ref a))) is ra → Paired (fun i o => ∃ t o0, ρ[i]? = some (Slot.own t o0) ∧ ρ'[i]? = some (Slot.own t o)) is outs → OutsR K H W ra outs →
    ∀ i ∈ is, ∃ a t o0 o, σ[i]? = some (some (V.ref a)) ∧ a ∈ ra ∧ ρ[i]? = some (Slot.own t o0) ∧ ρ'[i]? = some (Slot.own t o) ∧ ObjR K H W a o
  | [], _, _, _, _, _, i, h => by simp at h
  | j :: is, a :: ra, o :: os, .cons ⟨_, e1⟩ r1, .cons ⟨t, o0, e2, e3⟩ r2, .cons ob r3, i, h => by
    rcases List.mem_cons.mp h with rfl | h
    · exact ⟨a, t, o0, o, e1, List.mem_cons_self, e2, e3, ob⟩
    · obtain ⟨a', t', q, q', h1, h2, h3⟩ := back_at r1 r2 r3 i h
      exact ⟨a', t', q, q', h1, List.mem_cons_of_mem _ h2, h3⟩
end
section
variable {X : Cx} {F : Spec} {k : Nat} {f : Addr} {fd : FuncData} {ps : List Str} {x : Str} {p pos : Pos} {e : Expr} {es : List Expr} {s : SA}
theorem tCall_of {σ : Sg} {H : Hp} {Q : VK} (h : tE X.K (c_call F s) σ H Q) : tCall (spOf X.K F) [] E0 (tA X.K s) σ H Q := by
  obtain ⟨ρ, W, rf, k, E, h, q⟩ := h
  refine ⟨ρ, W, rf, _, E, h, fun xs ρ1 vs H1 W1 h1 G1 r1 => ?_⟩
  obtain ⟨ds, ρ2, em, h2⟩ := mvsK_of h1
  obtain ⟨W2, G2, ra, _, _⟩ := mvs_ok E G1 r1.w em
  rw [List.append_nil]
  refine ⟨W2, ds.map .val, [], _, G2.env.dom, argsR_vals ra, List.nodup_nil, h2, fun d outs v H' W' hk kp dm sub gr dm' _ rp => ?_⟩
  have sm : Same H1 H' := fun a u e => kp a u (by simp) e
  refine q _ _ _ _ _ hk ⟨G2.env.same sm (fun _ h => .inl h) (fun _ h => h) fun a h => dm a (G2.env.dom a h), ⟨fun a u n e => sm a u (G2.kp.keep a u n e)⟩, fun a h => dm a (G2.dom a h), G2.grow, G2.lose, G2.osub, G2.osubL⟩ ?_
  exact rp.sub fun a h => .inl (sub a h)
theorem tCallR_of {fs : List Bool} {σ : Sg} {H : Hp} {Q : VK} (h : tE X.K (c_callR F fs s) σ H Q) : tCall (spOf X.K F) [] E0 (tA X.K s) σ H Q := by
  obtain ⟨ρ, W, rf, k, E, h, q⟩ := h
  refine ⟨ρ, W, rf, _, E, h, fun xs ρ1 vs H1 W1 h1 G1 r1 => ?_⟩
  obtain ⟨W2, ρ2, ps, G2, rp2, _, h2⟩ := pargs_ok E G1 r1.w h1
  obtain ⟨args, ra, ⟨nd, hF⟩, ar, pr⟩ := fill_ok G2.env rp2 h2
  rw [List.append_nil]
  refine ⟨W2, args, ra, _, G2.env.dom, ar, refs_nodup G2.env pr nd, hF, fun d outs v H' W' hk kp dm sub gr dm' os rp => ?_⟩
  have raO : ∀ a ∈ ra, Own σ ρ2 a := fun a ha => let ⟨i, _, ⟨t, o, e1⟩, e2⟩ := paired_mem pr a ha; ⟨i, t, o, e1, e2⟩
  have W2' : ∀ a, W2 a → W2 a ∨ H1 a = none := fun _ h => .inl h
  have kpW : Kp (fun a => a ∈ ra) H1 H' := ⟨fun a u n e => kp a u n e⟩
  have E2 := G2.env
  obtain ⟨ρ3, hk3, hl3, ho3, hp3⟩ := back_of nd hk
  have at3 := back_at pr hp3 os
  have raW : ∀ a ∈ ra, W2 a := fun a ha => E2.ownW (raO a ha)
  have own_ : ∀ {j t q}, ρ3[j]? = some (Slot.own t q) → ∃ q0, ρ2[j]? = some (Slot.own t q0) := fun {j t q} h => by
    by_cases hj : j ∈ refsOf ps
    · obtain ⟨a, t', o0, o, _, _, h1, h2, _⟩ := at3 j hj
      rw [h] at h2; cases h2
      exact ⟨o0, h1⟩
    · rw [ho3 j hj] at h; exact ⟨q, h⟩
  have E3 : EnvR X.K rf σ H' W2 ρ3 := by
    refine ⟨hl3.trans E2.len, fun a h => dm a (E2.dom a h), fun a h => dm a (E2.rfd a h), fun j d h => ?_, fun j t q h => ?_, fun j l t u q1 q2 b h1 h2 h3 h4 => ?_⟩
    · by_cases hj : j ∈ refsOf ps
      · obtain ⟨a, t', o0, o, _, _, _, h2, _⟩ := at3 j hj
        rw [h] at h2; cases h2
      · rw [ho3 j hj] at h
        obtain ⟨v', e, r⟩ := E2.val j d h
        exact ⟨v', e, r.mono kpW (fun a ha => raW a ha) W2'⟩
    · by_cases hj : j ∈ refsOf ps
      · obtain ⟨a, t', o0, o, h1, _, h3, h2, ob⟩ := at3 j hj
        rw [h] at h2; cases h2
        obtain ⟨a', e, w, _, t1, t2⟩ := E2.own j t o0 h3
        rw [h1] at e; cases e
        exact ⟨a, h1, w, ob.sub fun b h => .inl (sub b h), t1, t2⟩
      · rw [ho3 j hj] at h
        obtain ⟨a, e, w, r, t1, t2⟩ := E2.own j t q h
        refine ⟨a, e, w, r.mono kpW (fun a ha => raW a ha) W2' fun ha => ?_, t1, t2⟩
        obtain ⟨i, hi, ⟨u, o, e1⟩, e2⟩ := paired_mem pr a ha
        exact hj (E2.inj j i _ _ _ _ _ h e1 e e2 ▸ hi)
    · obtain ⟨p1, k1⟩ := own_ h1
      obtain ⟨p2, k2⟩ := own_ h2
      exact E2.inj j l _ _ _ _ _ k1 k2 h3 h4
  refine q _ _ _ _ _ hk3 ⟨E3, ⟨fun a u n e => ?_⟩, fun a h => dm a (G2.dom a h), G2.grow, G2.lose, fun a ⟨i, t, o, h1, h2⟩ => ?_, fun a ⟨i, o, h1, h2⟩ => ?_⟩ (rp.sub fun a h => .inl (sub a h))
  · refine kp a u (fun ha => ?_) (G2.kp.keep a u n e)
    rcases G2.osub a (raO a ha) with z | z
    · exact n z
    · rw [e] at z; cases z
  · obtain ⟨q0, h3⟩ := own_ h1
    exact G2.osub a ⟨i, t, q0, h3, h2⟩
  · obtain ⟨q0, h3⟩ := own_ h1
    exact G2.osubL a ⟨i, q0, h3, h2⟩
theorem e_call (G : FnOk X.prog X.w X.K X.mg X.base CX0 k f fd ps (spOf X.K F)) (hr : Room k X.A) (hg : Gl X x) (hm : X.mg x = some (.ref f)) (hk : PySem.W.keepIn X.K (.ref f) = true) (hb : Binds X.K fd ps [])
    (ha : PA X (e :: es) (tA X.K s)) (hdb : (x == ("__debug__" : Str)) = false) (he : starEach (e :: es) X.env = (false, eval e X.env) :: starEach es X.env) (hpl : (backTo pos (starEach es X.env)).any (·.1) = false) :
    PE X (.Call (.Name x p) (e :: es) [] pos) (tE X.K (c_call F s)) := PE.imp (pe_call G hr hg hm hk hb .nil pass0 ha hdb he hpl) fun _ _ _ h => tCall_of h
theorem e_callR {fs : List Bool} (G : FnOk X.prog X.w X.K X.mg X.base CX0 k f fd ps (spOf X.K F)) (hr : Room k X.A) (hg : Gl X x) (hm : X.mg x = some (.ref f)) (hk : PySem.W.keepIn X.K (.ref f) = true) (hb : Binds X.K fd ps [])
    (ha : PA X (e :: es) (tA X.K s)) (hdb : (x == ("__debug__" : Str)) = false) (he : starEach (e :: es) X.env = (false, eval e X.env) :: starEach es X.env) (hpl : (backTo pos (starEach es X.env)).any (·.1) = false) :
    PE X (.Call (.Name x p) (e :: es) [] pos) (tE X.K (c_callR F fs s)) := PE.imp (pe_call G hr hg hm hk hb .nil pass0 ha hdb he hpl) fun _ _ _ h => tCallR_of h
/-- f() -/
theorem e_call0 (G : FnOk X.prog X.w X.K X.mg X.base CX0 k f fd ps (spOf X.K F)) (hr : Room k X.A) (hg : Gl X x) (hm : X.mg x = some (.ref f)) (hk : PySem.W.keepIn X.K (.ref f) = true) (hb : Binds X.K fd ps [])
    (hdb : (x == ("__debug__" : Str)) = false) : PE X (.Call (.Name x p) [] [] pos) (tE X.K (c_call F a_nil)) := PE.imp (pe_call0 G hr hg hm hk hb .nil pass0 hdb) fun σ H Q ⟨ρ, W, rf, k, E, h, q⟩ => tCall_of (s := a_nil) ⟨ρ, W, rf, k, E, h, q⟩ |> fun ⟨ρ, W, rf, k, E, h, q⟩ => q _ _ _ _ _ h (Go.refl E) .nil

/-! ### a def -/
def outsK (ρ : En) : List Nat → Nat → (List OD → Prop) → Prop
  | [], _, k => k []
  | p :: ps, j, k => match ρ[p]? with
    | some (.own t o) => t = j + 1 ∧ outsK ρ ps (j + 1) fun os => k (o :: os)
    | _ => False
def startE : List Arg → Nat → En
  | [], _ => []
  | .val d :: as, j => .val d :: startE as j
  | .ref o :: as, j => .own (j + 1) o :: startE as (j + 1)
def refPos : List Arg → Nat → List Nat
  | [], _ => []
  | .val _ :: as, p => refPos as (p + 1)
  | .ref _ :: as, p => p :: refPos as (p + 1)
/-- n: how many names; m: how many parameters -/
def fnW (m n : Nat) (code : SS) : Spec := fun args K => args.length = m ∧
  code ⟨fun ρ => outsK ρ (refPos args 0) 0 (K .none), fun d ρ => outsK ρ (refPos args 0) 0 (K d), fun _ => False, fun _ => False⟩ (startE args 0 ++ List.replicate (n - m) .un)
end
end DL

/-! text E9b -/
set_option Elab.async false
set_option linter.all false
set_option maxRecDepth 100000
set_option maxHeartbeats 1000000
namespace DL
open PySem PySem.Spec PyProof.Rows L2 PySem.SeqAt
open FbM (Rec rec_new)
open PySem.W (alike alikeAll dataLt dataLe rcLt_alike AllAlike Sortable EachIs)
section
variable {X : Cx} {pins : List (Addr × Obj)} {σ : Sg} {H : Hp} {s : Shared} {A : Around} {F : Spec} {kk : Nat} {f : Addr} {fd : FuncData} {ps : List Str} {W : AS}

/-! ### max(xs, key = f) -/
theorem key_call {E : Value → Shared → Prop} {Q : Value → Shared → Prop} {x : V} {u : Value} {d : Dat} {n : Int} (G : FnOk X.prog X.w X.K X.mg X.base CX0 kk f fd ps (spOf X.K F)) (hr : Room kk A) (hA : A.frames = some X.stack) (hb : Binds X.K fd ps [])
    (I : Inv X pins σ H s) (rx : RelV x u) (dm : ∀ a, W a → H a ≠ none) (rp : Rp X.K H W x d) (hF : F [.val d] fun r _ => r = .int n)
    (q : ∀ t s2 H2, Inv X pins σ H2 s2 → Same H H2 → (∀ b o, Rec X pins b → H b = none → s.heap.get? b = some o → s2.heap.get? b = some o ∧ H2 b = none) → Q (.int n t) s2) :
    wpAny (model X.prog X.w) A (call (.ref f) [u]) Q E s := by
  have e0 := I.env0
  have e1 : Env0 X.prog X.w X.K X.mg X.base A X.stack s H := ⟨hA, e0.mod, e0.bs, e0.bsz, e0.funs, e0.frf, e0.hok, e0.bare⟩
  have sp : spOf X.K F [x] H (fun v H' => v = .int n ∧ Same H H') L2.E0 := ⟨W, [.val d], [], _, dm, .val rp .nil, List.nodup_nil, hF, fun d' outs v H' W' hk kp _ _ _ _ _ rp' => by
    subst hk
    cases rp'
    exact ⟨rfl, fun a u e => kp a u (by simp) e⟩⟩
  have hl : ([u] ++ ([] : List Value)).length = ps.length := G.len _ _ _ _ sp
  refine wpAny_call (codeAny_mono (G.run A X.stack s H ⟨[u], []⟩ [u] [x] _ L2.E0 hr e1 (hb s [u] I.kIn hl) (.cons rx .nil) sp) fun r s' hq => ?_)
  cases r with
  | error e => exact False.elim hq
  | ok fl =>
    cases fl with
    | next => exact False.elim hq
    | brk => exact False.elim hq
    | cont => exact False.elim hq
    | ret v =>
      obtain ⟨v', H', os, bare, un, hok, rv', ev, sm⟩ := (show CE X.stack X.prog X.w H _ _ v s' from hq)
      subst ev
      obtain ⟨t, rfl⟩ := rv'
      have I2 : Inv X pins σ H' s' := I.call' os un hok bare (fun b y => absurd y List.not_mem_nil)
      exact q t s' H' I2 sm fun b o rb ub eb => ⟨un.keep _ _ eb ub rb.fr List.not_mem_nil, un.free _ _ eb ub List.not_mem_nil⟩
theorem sqL_same {K : PySem.W.Frag} {H H' : Hp} {a : Addr} {xs : List V} (h : SqL K H a xs) (sm : Same H H') : SqL K H' a xs := by
  rcases h with (h | ⟨o, h⟩) | h
  · exact .inl (.inl (sm _ _ h))
  · exact .inl (.inr ⟨o, sm _ _ h⟩)
  · exact .inr h
theorem mk_loop {R : Result → Shared → Prop} {l I S : Addr} {xs : List V} {ds : List Dat} (kf : Nat → Int) (hh : X.A.handled = none) (G : FnOk X.prog X.w X.K X.mg X.base CX0 kk f fd ps (spOf X.K F)) (hr : Room kk X.A.in1) (hA : X.A.in1.frames = some X.stack) (hb : Binds X.K fd ps [])
    (hF : ∀ i d, ds[i]? = some d → F [.val d] fun r _ => r = .int (kf i)) (rS : Rec X pins S) (rI : Rec X pins I) (lI : l ≠ I) (lS : l ≠ S) (SI : S ≠ I)
    (hR : ∀ i x v s' H', xs[i]? = some x → (∀ j, j < xs.length → kf i ≥ kf j ∧ (j < i → kf i > kf j)) → Inv X pins σ H' s' → Same H H' → RelV x v → R (.ok (.ret v)) s') :
    ∀ (r j i : Nat) (s : Shared) (H1 : Hp) (x : V) (vb : Value) (tb : Tok) (c : Nat), xs.length - (j + 1) = r → j + 1 ≤ xs.length → Same H H1 → Inv X pins σ H1 s → SqL X.K H1 l xs → RpAll X.K H1 W xs ds → (∀ a, W a → H1 a ≠ none) →
      s.heap.get? S = some (seqObj "list" #[vb, .int (kf i) tb] c) → s.heap.IsListIter I l (j + 1) → H1 S = none → H1 I = none → xs[i]? = some x → RelV x vb → i ≤ j → (∀ j', j' ≤ j → kf i ≥ kf j' ∧ (j' < i → kf i > kf j')) →
      codeAny (model X.prog X.w) X.A (.builtin "max.loop" ⟨[.ref I, .ref f, .ref S], []⟩) R s := by
  have hname : (toString "max" ++ toString ".loop" : String) = "max.loop" := by decide
  intro r
  induction r with
  | zero =>
    intro j i s H1 x vb tb c hr' hj sm I1 hl ra dm gS hit uS uI hx rx hij hbest
    have hin : j + 1 = xs.length := by omega
    obtain ⟨its, rv, pl, _⟩ := I1.list hl
    have hsz := rv.length
    refine codeAny_builtin PySem.F.entry_max_loop ?_
    rw [Around.under_plainId PySem.F.plain_max_loop _]
    show wpAny _ X.A.in1 (seqItems? (.ref S) >>= _) _ _ _
    refine wpAny_bind (wpAny_seqItems gS rfl ?_)
    show wpAny _ X.A.in1 (tryCatch (pyNext (.ref I)) _ >>= _) _ _ _
    refine wpAny_bind (wpAny_tryCatch (wpAny_pyNext_list_end (A := X.A.in1) hh hit pl.isList (by rw [List.getElem?_toArray]; exact List.getElem?_eq_none (by omega)) fun h' he => ?_))
    have I2 : Inv X pins σ H1 { s with heap := h' } := rI.turn (t' := s.toks) I1 uI fun c o hc e => he c o hc e
    have gS' : h'.get? S = _ := he _ _ SI gS
    have s1 := Heap.SameBut.update h' S (Obj.mapSeq fun _ => (#[] : Array Value))
    show wpAny _ X.A.in1 (updateSeq S (fun _ => #[]) >>= _) _ _ _
    refine wpAny_bind ?_
    refine wpAny_updateSeq gS' rfl (wpAny_bind (wpAny_letGo (wpAny_pure ?_)))
    exact hR i x vb _ _ hx (fun j' hj' => hbest j' (by omega)) (rS.turn (t' := s.toks) I2 uS fun c o hc e => s1.extBut c o hc e) sm rx
  | succ r ih =>
    intro j i s H1 x vb tb c hr' hj sm I1 hl ra dm gS hit uS uI hx rx hij hbest
    have hlt : j + 1 < xs.length := by omega
    obtain ⟨its, rv, pl, _⟩ := I1.list hl
    have hsz := rv.length
    obtain ⟨y, hy⟩ : ∃ y, xs[j + 1]? = some y := ⟨_, List.getElem?_eq_getElem hlt⟩
    obtain ⟨u, hu, ry⟩ := rv.get hy
    obtain ⟨d, hd, rp⟩ := ra.get' hy
    refine codeAny_builtin PySem.F.entry_max_loop ?_
    rw [Around.under_plainId PySem.F.plain_max_loop _]
    show wpAny _ X.A.in1 (seqItems? (.ref S) >>= _) _ _ _
    refine wpAny_bind (wpAny_seqItems gS rfl ?_)
    show wpAny _ X.A.in1 (tryCatch (pyNext (.ref I)) _ >>= _) _ _ _
    refine wpAny_bind (wpAny_tryCatch (wpAny_pyNext_list_item (A := X.A.in1) hit pl.isList (x := u) (by rw [List.getElem?_toArray]; exact hu) fun h' hit' he => ?_))
    have I2 : Inv X pins σ H1 { s with heap := h' } := rI.turn (t' := s.toks) I1 uI fun c o hc e => he.extBut c o hc e
    have gS' : h'.get? S = _ := he.extBut _ _ SI gS
    show wpAny _ X.A.in1 (tryCatch (holding [u] (call (.ref f) [u])) _ >>= _) _ _ _
    refine wpAny_bind (wpAny_tryCatch (wpAny_holding (key_call G hr hA hb I2 ry dm rp (hF _ _ hd) fun t s2 H2 I3 sm2 kp => ?_)))
    obtain ⟨oI, gI, hoc, hod⟩ := hit'
    obtain ⟨gI2, uI2⟩ := kp I oI rI uI gI
    obtain ⟨gS2, uS2⟩ := kp S _ rS uS gS'
    have hit2 : s2.heap.IsListIter I l (j + 1 + 1) := ⟨oI, gI2, hoc, hod⟩
    have sm3 : Same H H2 := fun b o e => sm2 _ _ (sm _ _ e)
    have hl2 := sqL_same hl sm2
    have ra2 : RpAll X.K H2 W xs ds := ra.same sm2 (fun _ h => .inl h)
    have dm2 : ∀ a, W a → H2 a ≠ none := fun a h => by
      cases e : H1 a with
      | none => exact absurd e (dm a h)
      | some o => rw [sm2 _ _ e]; exact fun z => nomatch z
    show wpAny _ X.A.in1 (tryCatch (holding [u, .int (kf (j + 1)) t] (richCompare .Gt (.int (kf (j + 1)) t) (.int (kf i) tb) >>= _)) _ >>= _) _ _ _
    refine wpAny_bind (wpAny_tryCatch (wpAny_holding (wpAny_bind (CmpOf.ints_gt (prog := X.prog) (w := X.w) (A := X.A.in1) (P := fun i v => ∃ t, v = .int (kf i) t) kf (fun i v h => h) (j + 1) i _ _ _ _ _ ⟨t, rfl⟩ ⟨tb, rfl⟩ ?_))))
    refine wpAny_bind (wpAny_holding (wpAny_truthy_bool ?_))
    refine wpAny_bind (wpAny_letGo (wpAny_pure ?_))
    by_cases hb' : kf (j + 1) > kf i
    · have s1 := Heap.SameBut.update s2.heap S (Obj.mapSeq fun _ => #[u, .int (kf (j + 1)) t])
      obtain ⟨c2, hc2⟩ : ∃ c2, (s2.heap.update S (Obj.mapSeq fun _ => #[u, .int (kf (j + 1)) t])).get? S = some (seqObj "list" #[u, .int (kf (j + 1)) t] c2) := ⟨_, get?_update_seq gS2 fun _ => #[u, .int (kf (j + 1)) t]⟩
      simp only [hb', decide_true, if_true]
      refine wpAny_bind ?_
      refine wpAny_updateSeq gS2 rfl (wpAny_bind (wpAny_letGo ?_))
      rw [hname]
      refine wpAny_pure ⟨plainId_quiet PySem.F.plain_max_loop _, ih (j + 1) (j + 1) _ H2 y u t c2 (by omega) hlt sm3 (rS.turn (t' := s2.toks) I3 uS2 fun c o hc e => s1.extBut c o hc e) hl2 ra2 dm2 hc2 ⟨oI, (s1.2 I SI.symm).trans gI2, hoc, hod⟩ uS2 uI2 hy ry (Nat.le_refl _) fun j' hj' => ?_⟩
      by_cases e : j' = j + 1
      · subst e
        exact ⟨by omega, fun _ => by omega⟩
      · have hb1 := hbest j' (by omega)
        have hb2 := hb1.1
        exact ⟨by omega, fun _ => by omega⟩
    · simp only [hb', decide_false, Bool.false_eq_true, if_false]
      refine wpAny_bind (wpAny_letGo ?_)
      rw [hname]
      refine wpAny_pure ⟨plainId_quiet PySem.F.plain_max_loop _, ih (j + 1) i _ H2 x vb tb c (by omega) hlt sm3 I3 hl2 ra2 dm2 gS2 hit2 uS2 uI2 hx rx (by omega) fun j' hj' => ?_⟩
      by_cases e : j' = j + 1
      · subst e
        exact ⟨by omega, fun _ => by omega⟩
      · exact hbest j' (by omega)

/-- what is asked of f, and what comes -/
def gMaxK (F : Spec) : FN
  | [.list ds], k => ∃ kf : Nat → Int, 0 < ds.length ∧ (∀ i d, ds[i]? = some d → F [.val d] fun r _ => r = .int (kf i)) ∧ ∀ i d, ds[i]? = some d → (∀ j, j < ds.length → kf i ≥ kf j ∧ (j < i → kf i > kf j)) → k (.dat d)
  | _, _ => False
theorem mk_run (hc : X.calm = true) (G : FnOk X.prog X.w X.K X.mg X.base CX0 kk f fd ps (spOf X.K F)) (hr : Room (kk + 1) X.A) (hb : Binds X.K fd ps []) :
    CallRK X (.builtin "max") [Str.ofString "key"] (fun vs zs H Q => zs = [.ref f] ∧ rC X.K (gMaxK F) vs H Q) := by
  intro pins s σ H vs zs us ws Q I r rz h
  obtain ⟨rfl, W, ds, P, dm, ra0, h, q⟩ := h
  have e0 : ∃ dl, ds = [.list dl] := by
    unfold gMaxK at h
    split at h
    · exact ⟨_, rfl⟩
    · exact h.elim
  obtain ⟨dl, rfl⟩ := e0
  · obtain ⟨v0, rfl, r1⟩ := rr1 ra0
    obtain ⟨l, xs, rfl, h1, ra⟩ := r1.list
    obtain rfl := Vals.ref1 r
    obtain ⟨w1, rfl, e1⟩ := vals1 rz
    obtain rfl : w1 = Value.ref f := e1
    obtain ⟨kf, hne, hF, hk⟩ := h
    have hl : SqL X.K H l xs := SqL.of h1
    have hh : X.A.handled = none := I.ok.hd hc
    have hA : X.A.in1.frames = some X.stack := I.env0.frames
    obtain ⟨its, rv, pl, _⟩ := I.list hl
    have hsz := rv.length
    have hlen := ra.length
    have hname : (toString "max" ++ toString ".loop" : String) = "max.loop" := by decide
    have hll : l < s.heap.objs.size := by
      obtain ⟨ol, hol, _⟩ := id pl.isList
      exact Heap.lt_size hol
    show wpAny (model X.prog X.w) X.A (call (.builtin "max") [.ref l] [(Str.ofString "key", .ref f)]) _ _ s
    refine kmk_tree PySem.F.kind_max PySem.F.plain_max PySem.F.entry_max (kmk_max_key _ _) ?_
    show wpAny _ X.A.in1 (Builtin.Builtins.bindParams "max" ["key", "default"] 0 ⟨[], [(Str.ofString "key", .ref f)]⟩ >>= _) _ _ s
    refine wpAny_bind (wpAny_of_eq (show Builtin.Builtins.bindParams "max" ["key", "default"] 0 ⟨[], [(Str.ofString "key", .ref f)]⟩ = pure [some (.ref f), none] from rfl) ?_)
    refine wpAny_bind (wpAny_pure ?_)
    refine wpAny_bind (wpAny_pyIter_list pl.isList ?_)
    refine wpAny_bind (wpAny_newList ?_ (Nat.zero_le _))
    rw [hname]
    have hS : (s.heap.push { cls := .type "list_iterator", data := .fields #[.ref l, .int 0 0] }).objs.size = s.heap.objs.size + 1 := size_push' ..
    have hlI : l ≠ s.heap.objs.size := Nat.ne_of_lt hll
    have hlS : l ≠ (s.heap.push { cls := .type "list_iterator", data := .fields #[.ref l, .int 0 0] }).objs.size := by rw [hS]; exact Nat.ne_of_lt (Nat.lt_succ_of_lt hll)
    have hSI : (s.heap.push { cls := .type "list_iterator", data := .fields #[.ref l, .int 0 0] }).objs.size ≠ s.heap.objs.size := by rw [hS]; exact Nat.ne_of_gt (Nat.lt_succ_self _)
    have rI : Rec X pins s.heap.objs.size := rec_new I (Nat.le_refl _)
    have rS : Rec X pins (s.heap.push { cls := .type "list_iterator", data := .fields #[.ref l, .int 0 0] }).objs.size := rec_new I (by rw [hS]; exact Nat.le_succ _)
    have uI : H s.heap.objs.size = none := I.hok.fresh (Nat.le_refl _)
    have uS : H (s.heap.push { cls := .type "list_iterator", data := .fields #[.ref l, .int 0 0] }).objs.size = none := I.hok.fresh (by rw [hS]; exact Nat.le_succ _)
    have I1 : Inv X pins σ H { s with heap := (s.heap.push { cls := .type "list_iterator", data := .fields #[.ref l, .int 0 0] }).push (seqObj "list" #[] 0) } := I.kept (t' := s.toks) fun b x e => Heap.get?_push_of_some _ (Heap.get?_push_of_some _ e)
    have gI : ((s.heap.push { cls := .type "list_iterator", data := .fields #[.ref l, .int 0 0] }).push (seqObj "list" #[] 0)).get? s.heap.objs.size = some { cls := .type "list_iterator", data := .fields #[.ref l, .int 0 0] } :=
      Heap.get?_push_of_some _ (Heap.get?_push_size _ rfl)
    have gS : ((s.heap.push { cls := .type "list_iterator", data := .fields #[.ref l, .int 0 0] }).push (seqObj "list" #[] 0)).get? (s.heap.push { cls := .type "list_iterator", data := .fields #[.ref l, .int 0 0] }).objs.size = some (seqObj "list" #[] 0) := Heap.get?_push_size _ rfl
    generalize hSg : (s.heap.push { cls := .type "list_iterator", data := .fields #[.ref l, .int 0 0] }).objs.size = S at *
    generalize hIg : s.heap.objs.size = J at *
    generalize hHg : (s.heap.push { cls := .type "list_iterator", data := .fields #[.ref l, .int 0 0] }).push (seqObj "list" #[] 0) = hp at *
    refine wpAny_pure ⟨plainId_quiet PySem.F.plain_max_loop _, ?_⟩
    have hxl : 0 < xs.length := by omega
    obtain ⟨y, hy⟩ : ∃ y, xs[0]? = some y := ⟨_, List.getElem?_eq_getElem hxl⟩
    obtain ⟨its1, rv1, pl1, _⟩ := I1.list hl
    obtain ⟨u, hu, ry⟩ := rv1.get hy
    obtain ⟨d, hd, rp⟩ := ra.get' hy
    refine codeAny_builtin PySem.F.entry_max_loop ?_
    rw [Around.under_plainId PySem.F.plain_max_loop _]
    show wpAny _ X.A.in1 (seqItems? (.ref _) >>= _) _ _ _
    refine wpAny_bind (wpAny_seqItems gS rfl ?_)
    show wpAny _ X.A.in1 (tryCatch (pyNext (.ref J)) _ >>= _) _ _ _
    refine wpAny_bind (wpAny_tryCatch (wpAny_pyNext_list_item (A := X.A.in1) (i := 0) ⟨_, gI, rfl, rfl⟩ pl1.isList (x := u) (by rw [List.getElem?_toArray]; exact hu) fun h' hit' he => ?_))
    have I2 : Inv X pins σ H { s with heap := h' } := rI.turn (s := { s with heap := hp }) (t' := s.toks) I1 uI fun c o hc e => he.extBut c o hc e
    have gS' : h'.get? S = _ := he.extBut _ _ hSI gS
    show wpAny _ X.A.in1 (tryCatch (holding [u] (call (.ref f) [u])) _ >>= _) _ _ _
    refine wpAny_bind (wpAny_tryCatch (wpAny_holding (key_call G hr.in1 hA hb I2 ry dm rp (hF _ _ hd) fun t s2 H2 I3 sm2 kp => ?_)))
    obtain ⟨oI, gI1, hoc, hod⟩ := hit'
    obtain ⟨gI2, uI2⟩ := kp J oI rI uI gI1
    obtain ⟨gS2, uS2⟩ := kp S _ rS uS gS'
    have hl2 := sqL_same hl sm2
    have ra2 : RpAll X.K H2 W xs dl := ra.same sm2 (fun _ h => .inl h)
    have dm2 : ∀ a, W a → H2 a ≠ none := fun a h => by
      cases e : H a with
      | none => exact absurd e (dm a h)
      | some o => rw [sm2 _ _ e]; exact fun z => nomatch z
    have s1 := Heap.SameBut.update s2.heap S (Obj.mapSeq fun _ => #[u, .int (kf 0) t])
    obtain ⟨c2, hc2⟩ : ∃ c2, (s2.heap.update S (Obj.mapSeq fun _ => #[u, .int (kf 0) t])).get? S = some (seqObj "list" #[u, .int (kf 0) t] c2) := ⟨_, get?_update_seq gS2 fun _ => #[u, .int (kf 0) t]⟩
    show wpAny _ X.A.in1 (updateSeq S (fun _ => #[u, .int (kf 0) t]) >>= _) _ _ _
    refine wpAny_bind ?_
    refine wpAny_updateSeq gS2 rfl ?_
    rw [hname]
    refine wpAny_pure ⟨plainId_quiet PySem.F.plain_max_loop _, mk_loop (W := W) (ds := dl) (σ := σ) (pins := pins) (H := H) kf hh G hr.in1 hA hb hF rS rI hlI hlS hSI (fun i x v s' H' hx hbst I4 sm4 rx => ?_) _ 0 0 _ H2 y u t c2 rfl hxl sm2
      (rS.turn (t' := s2.toks) I3 uS2 fun c o hc e => s1.extBut c o hc e) hl2 ra2 dm2 hc2 ⟨oI, (s1.2 J hSI.symm).trans gI2, hoc, hod⟩ uS2 uI2 hy ry (Nat.le_refl _) fun j' hj' => ?_⟩
    · obtain ⟨d', hd', rp'⟩ := ra.get' hx
      exact ⟨x, H', I4, rx, q _ _ _ (hk i d' hd' (by rw [← hlen]; exact hbst)) ⟨sm4, rp'.same sm4 (fun _ h => .inl h)⟩⟩
    · obtain rfl : j' = 0 := by omega
      exact ⟨Int.le_refl _, fun h => absurd h (Nat.lt_irrefl _)⟩
/-- max(e, key = f) -/
theorem e_maxK {e : Expr} {s : SA} {y : Str} {p p2 pos kpos : Pos} (hc : X.calm = true) (G : FnOk X.prog X.w X.K X.mg X.base CX0 kk f fd ps (spOf X.K F)) (hr : Room (kk + 1) X.A) (hb : Binds X.K fd ps [])
    (hgy : Gl X y) (hmy : X.mg y = some (.ref f)) (hdy : (y == ("__debug__" : Str)) = false)
    (hg : Gl X "max") (hm : X.mg "max" = none) (ha : PA X [e] (tA X.K s)) (he : starEach [e] X.env = (false, eval e X.env) :: starEach [] X.env) :
    PE X (.Call (.Name "max" p) [e] [⟨some "key", .Name y p2, kpos⟩] pos) (tE X.K (c_fn (gMaxK F) s)) := by
  have hk : PK X [⟨some "key", .Name y p2, kpos⟩] (tCons (tC (.ref f)) tNil) := pk_cons (pe_glob hgy hmy rfl hdy) pk_nil
  refine PE.imp (pe_callBK (ks := [Str.ofString "key"]) (mk_run hc G hr hb) hg hm PyProof.Rows.boot_max ha hk (by decide) (by decide) (by rw [he]; rfl) (by rw [he]; rfl) rfl rfl rfl) fun σ H Q h => ?_
  obtain ⟨ρ, W, rf, k, E, h, q⟩ := h
  refine ⟨ρ, W, rf, _, E, h, fun xs ρ1 vs H1 W1 h1 G1 r1 => ?_⟩
  obtain ⟨ds, ra, h1⟩ := rdsK_of G1.env r1 h1
  exact ⟨rfl, W1, ds, _, G1.env.dom, ra, h1, fun z v H' kz pr => let ⟨W3, G3, r3⟩ := pres_go E G1 pr; q _ _ _ _ _ kz G3 r3⟩

/-! ### t[::-1] -/
def fRev : F1
  | .tuple ds, k => k (.dat (.tuple ds.reverse))
  | _, _ => False
def c_rev (a : SE) : SE := fun ρ k => a ρ fun x ρ1 => rdK ρ1 x fun d => fRev d fun z => k z ρ1

section
variable {prog : Program} {w : World} {E : Value → Shared → Prop}
theorem revApplied {sl : Addr} {vl vu : Value} {tk : Tok} {n : Nat} {Q : Int × Int × Nat → Shared → Prop} (hs : s.heap.IsSliceOf sl vl vu (.int (-1) tk)) (pl : IsPart vl none) (pu : IsPart vu none)
    (h : Q ((n : Int) - 1, -1, n) s) : wpAny (model prog w) A (Builtin.Slice.sliceApplied (.ref sl) (pure (n : Int))) Q E s := by
  obtain ⟨os, hos, hcs, hds⟩ := id hs
  unfold Builtin.Slice.sliceApplied Builtin.Slice.sliceFields
  refine wpAny_bind (wpAny_bind (wpAny_field hos hds (x := vl) rfl (wpAny_bind (wpAny_field hos hds (x := vu) rfl (wpAny_bind (wpAny_field hos hds (x := .int (-1) tk) rfl (wpAny_pure ?_)))))))
  refine wpAny_bind (HT.slicePart_ (IsPart.int (-1) tk) ?_)
  show wpAny _ _ (if ((-1 : Int) == 0) = true then _ else _) _ _ s
  rw [if_neg (by decide)]
  refine wpAny_bind (HT.slicePart_ pl (wpAny_bind (HT.slicePart_ pu (wpAny_bind (wpAny_pure ?_)))))
  have e : Builtin.Slice.sliceAdjust none none (-1) (n : Int) = ((n : Int) - 1, -1) := by
    unfold Builtin.Slice.sliceAdjust
    simp
  have e2 : Builtin.Slice.slicePlaces ((n : Int) - 1) (-1) (-1) = n := by
    unfold Builtin.Slice.slicePlaces
    by_cases h : n = 0
    · subst h; simp
    · simp; omega
  show wpAny _ _ (match Builtin.Slice.sliceAdjust none none (-1) (n : Int) with | (lo, hi) => pure (lo, (-1 : Int), Builtin.Slice.slicePlaces lo hi (-1))) _ _ s
  rw [e]
  show wpAny _ _ (pure ((n : Int) - 1, (-1 : Int), Builtin.Slice.slicePlaces ((n : Int) - 1) (-1) (-1))) _ _ s
  rw [e2]
  exact wpAny_pure h
theorem getItem_tuple_rev {t sl : Addr} {items : Array Value} {vl vu : Value} {tk : Tok} {Q : Value → Shared → Prop} (ht : IsTup s.heap t items) (hs : s.heap.IsSliceOf sl vl vu (.int (-1) tk)) (pl : IsPart vl none) (pu : IsPart vu none)
    (h : Q (.ref s.heap.objs.size) { s with heap := s.heap.push { cls := .type "tuple", data := .seq items.toList.reverse.toArray } })
    (hsz : items.size ≤ sizeLine) : wpAny (model prog w) A (getItem (.ref t) (.ref sl)) Q E s := by
  obtain ⟨os, hos, hcs, hds⟩ := id hs
  have hTs : s.TypeIs (.ref sl) "slice" := ⟨os, hos, hcs⟩
  have hz : sizeOk (.seq items.toList.reverse.toArray) := by
    show items.toList.reverse.toArray.size ≤ sizeLine
    rw [List.size_toArray, List.length_reverse, Array.length_toList]
    exact hsz
  have ep : ((List.range items.size).filterMap fun (k : Nat) => items[((items.size : Int) - 1 + (k : Int) * -1).toNat]?).toArray = items.toList.reverse.toArray := by
    have e : (List.range items.size).filterMap (fun (k : Nat) => items[((items.size : Int) - 1 + (k : Int) * -1).toNat]?) = ((List.range items.size).map fun k => items.size - 1 - k).filterMap (items[·]?) := by
      rw [List.filterMap_map]
      have cg : ∀ (l : List Nat) (f g : Nat → Option Value), (∀ k ∈ l, f k = g k) → l.filterMap f = l.filterMap g := fun l f g h => by
        induction l with
        | nil => rfl
        | cons a l ih => rw [List.filterMap_cons, List.filterMap_cons, h a (List.mem_cons_self ..), ih fun k hk => h k (List.mem_cons_of_mem _ hk)]
      refine cg _ _ _ fun k hk => ?_
      have := List.mem_range.mp hk
      show items[((items.size : Int) - 1 + (k : Int) * -1).toNat]? = items[items.size - 1 - k]?
      rw [show ((items.size : Int) - 1 + (k : Int) * -1).toNat = items.size - 1 - k by omega]
    rw [e, PySem.W.krv_range, List.filterMap_reverse, PySem.W.krv_all]
  unfold getItem
  try with_reducible refine wpAny_holding ?_
  first | refine wpAny_bind (wpAny_pure ?_) | skip
  refine wpAny_bind (wpAny_sequenceKey ht.typeIs (by decide) ?_)
  refine wpAny_bind (wpAny_callSpecial?_slot (name := Str.ofString "__getitem__") ht.typeIs PyProof.Rows.slot_tuple_getitem
    (wpAny_call_entry PyProof.Rows.slot_tuple_getitem ht.typeIs entry_tuple_getitem ?_ (args_tuple_getitem _ _)))
  show wpAny _ _ (Builtin.Tuple.tupleItemsOf (.ref t) >>= _) _ _ s
  refine wpAny_bind (tupleItemsOf_ ht ?_)
  refine wpAny_bind (wpAny_typeOf hTs ?_)
  rw [if_pos (by decide)]
  refine wpAny_bind (revApplied hs pl pu ?_)
  show wpAny _ _ (if (((items.size : Int) - 1) == 0 && (-1 : Int) == 1 && items.size == items.size) = true then _ else _) _ _ s
  rw [if_neg (by simp), ep]
  first
    | exact wpAny_bind (m := Builtin.Tuple.tupleExact _) (wpAny_newObj_type (wpAny_pure ⟨_, rfl, wpAny_pure h⟩) hz)
    | exact wpAny_bind (m := Builtin.Tuple.tupleExact _) (wpAny_newObj_type (wpAny_bind (wpAny_pure (wpAny_pure ⟨_, rfl, wpAny_pure h⟩))) hz)
    | exact wpAny_bind (wpAny_bind (m := Builtin.Tuple.tupleExact _) (wpAny_newObj_type (wpAny_pure (wpAny_pure ⟨_, rfl, wpAny_pure h⟩)) hz))
    | exact wpAny_bind (wpAny_bind (m := Builtin.Tuple.tupleExact _) (wpAny_newObj_type (wpAny_pure ⟨_, rfl, wpAny_pure h⟩) hz))
end
def tRevT (K : PySem.W.Frag) (te : TE) : TE := fun σ H Q => te σ H fun x H1 => ∃ a xs, x = .ref a ∧ SqT K H1 a xs ∧ ∀ p, H1 p = none → Q (.ref p) (upd H1 p (.tup xs.reverse))
theorem pe_revT {e : Expr} {te : TE} {k : Nat} {p1 p2 p3 pos : Pos} (he : PE X e te) : PE X (.Subscript e (.Slice none none (some (.UnaryOp .USub (.Constant (.int 1) k p1) p2)) p3) pos) (tRevT X.K te) := by
  refine ⟨fun pins s σ H Q I h => ?_⟩
  refine Subscript_ (thn (he.run pins s σ H _ I h) fun v s1 ⟨x, H1, I1, r1, q1⟩ => ?_)
  obtain ⟨a, xs, ex, hx, q⟩ := q1
  subst ex
  cases r1
  have hst : PO X (some (.UnaryOp .USub (.Constant (.int 1) k p1) p2)) (tPart (tUn (rU fun i => .int (-i)) (tC (.int 1)))) := po_some (pe_un un_neg pe_int)
  refine wpAny_Slice (thn (po_none.run pins s1 σ H1 (fun o H2 => o = none ∧ H2 = H1) I1 ⟨rfl, rfl⟩) fun vl s2 ⟨l, H2, I2, pl, el, e2⟩ => ?_)
  subst el e2
  refine thn (po_none.run pins s2 σ H2 (fun o H3 => o = none ∧ H3 = H2) I2 ⟨rfl, rfl⟩) fun vu s3 ⟨u, H3, I3, pu, eu, e3⟩ => ?_
  subst eu e3
  refine thn (hst.run pins s3 σ H3 (fun o H4 => o = some (-1) ∧ H4 = H3) I3 ⟨1, rfl, -1, rfl, rfl, rfl⟩) fun vs s4 ⟨o, H4, I4, ps, eo, e4⟩ => ?_
  subst eo e4
  have I5 : Inv X pins σ H4 { s4 with heap := s4.heap.push { cls := .type "slice", data := .fields #[vl, vu, vs] } } := I4.kept (t' := s4.toks) fun b ob q => Heap.get?_push_of_some _ q
  obtain ⟨its, r, ht, hz⟩ := I5.tuple hx
  have hlen := r.length
  show wpAny (model X.prog X.w) X.A (subscriptTail e (.Slice none none (some (.UnaryOp .USub (.Constant (.int 1) k p1) p2)) p3) (.ref a) (.ref s4.heap.objs.size)) (EP X pins σ Q) X.xe { s4 with heap := s4.heap.push { cls := .type "slice", data := .fields #[vl, vu, vs] } }
  cases ps
  refine tail_any (ops := [.ref a, .ref s4.heap.objs.size]) ht.typeIs PyProof.Rows.slot_tuple_getitem.lookup ?_ (by with_unfolding_all rfl)
  refine getItem_tuple_rev ht (Heap.IsSliceOf.new _ vl vu _) pl pu ?_ (by rw [List.size_toArray]; omega)
  refine ⟨.ref _, _, I5.laid (t' := s4.toks) (o := .tup xs.reverse) (fun b ob q => Heap.get?_push_of_some _ q) (Nat.le_refl _) ?_, rfl, q _ (I5.hok.fresh (Nat.le_refl _))⟩
  exact ⟨by rw [List.length_reverse]; exact hz, _, r.reverse, IsTup.new _ _⟩
theorem RpAll.snoc {K : PySem.W.Frag} {v : V} {d : Dat} (r : Rp K H W v d) : ∀ {xs : List V} {ds : List Dat}, RpAll K H W xs ds → RpAll K H W (xs ++ [v]) (ds ++ [d])
  | _, _, .nil => .cons r .nil
  | _, _, .cons h t => .cons h (RpAll.snoc r t)
theorem RpAll.rev {K : PySem.W.Frag} : ∀ {xs : List V} {ds : List Dat}, RpAll K H W xs ds → RpAll K H W xs.reverse ds.reverse
  | _, _, .nil => .nil
  | _, _, .cons h t => by
    rw [List.reverse_cons, List.reverse_cons]
    exact RpAll.snoc h (RpAll.rev t)
theorem e_revT {e : Expr} {s : SE} {k : Nat} {p1 p2 p3 pos : Pos} (he : PE X e (tE X.K s)) : PE X (.Subscript e (.Slice none none (some (.UnaryOp .USub (.Constant (.int 1) k p1) p2)) p3) pos) (tE X.K (c_rev s)) := by
  refine PE.imp (pe_revT he) fun σ H Q h => ?_
  obtain ⟨ρ, W, rf, k, E, h, q⟩ := h
  refine ⟨ρ, W, rf, _, E, h, fun x ρ1 v H1 W1 h1 G1 r1 => ?_⟩
  obtain ⟨d, ed, h1⟩ := rdK_of h1
  have ra := r1.rd G1.env ed
  cases d <;> first | exact False.elim h1 | skip
  obtain ⟨a, xs, rfl, h2, a1⟩ := ra.tuple
  exact ⟨a, xs, rfl, h2, fun p hp => let ⟨W3, G3, r3⟩ := pres_go E G1 (pres_tup G1.env.dom hp a1.rev); q _ _ _ _ _ h1 G3 r3⟩

/-! ### a def that gives a new list -/
def spNew (K : PySem.W.Frag) (F : Spec) : Sp := fun vs H Q _ => ∃ (W : AS) (args : List Arg) (k : Dat → List OD → Prop), (∀ a, W a → H a ≠ none) ∧ ArgsR K H W vs args [] ∧ F args k ∧
  ∀ ds v H', k (.list ds) [] → PRes K H W v H' (.new (.lst ds)) → Q v H'
def asNew (k : List Dat → Prop) : Dat → Prop := fun d => match d with
  | .list ds => k ds
  | _ => False
def c_callN (F : Spec) (s : SA) : SE := fun ρ k => s ρ fun xs ρ1 => mvsK ρ1 xs fun ds ρ2 => F (ds.map .val) fun d _ => asNew (fun ds => k (.new (.lst ds)) ρ2) d
theorem tCallN_of {s : SA} {σ : Sg} {H : Hp} {Q : VK} (h : tE X.K (c_callN F s) σ H Q) : tCall (spNew X.K F) [] L2.E0 (tA X.K s) σ H Q := by
  obtain ⟨ρ, W, rf, k, E, h, q⟩ := h
  refine ⟨ρ, W, rf, _, E, h, fun xs ρ1 vs H1 W1 h1 G1 r1 => ?_⟩
  obtain ⟨ds, ρ2, em, h2⟩ := mvsK_of h1
  obtain ⟨W2, G2, ra, _, _⟩ := mvs_ok E G1 r1.w em
  rw [List.append_nil]
  exact ⟨W2, ds.map .val, _, G2.env.dom, argsR_vals ra, h2, fun es v H' hk pr => let ⟨W3, G3, r3⟩ := pres_go E G2 pr; q _ _ _ _ _ hk G3 r3⟩
theorem e_callN {e : Expr} {es : List Expr} {s : SA} {x : Str} {p pos : Pos} (G : FnOk X.prog X.w X.K X.mg X.base CX0 kk f fd ps (spNew X.K F)) (hr : Room kk X.A) (hg : Gl X x) (hm : X.mg x = some (.ref f)) (hk : PySem.W.keepIn X.K (.ref f) = true) (hb : Binds X.K fd ps [])
    (ha : PA X (e :: es) (tA X.K s)) (hdb : (x == ("__debug__" : Str)) = false) (he : starEach (e :: es) X.env = (false, eval e X.env) :: starEach es X.env) (hpl : (backTo pos (starEach es X.env)).any (·.1) = false) :
    PE X (.Call (.Name x p) (e :: es) [] pos) (tE X.K (c_callN F s)) := PE.imp (pe_call G hr hg hm hk hb .nil L2.pass0 ha hdb he hpl) fun _ _ _ h => tCallN_of h
/-- what such a def does -/
def endNew (k : Dat → List OD → Prop) : Vl → En → Prop := fun x _ => match x with
  | .new (.lst ds) => k (.list ds) []
  | _ => False
def fnN (m n : Nat) (code : SE) : Spec := fun args K => args.length = m ∧ code (startE args 0 ++ List.replicate (n - m) .un) (endNew K)
end
end DL

/-! text E10 -/
set_option Elab.async false
set_option linter.all false
set_option maxRecDepth 100000
set_option maxHeartbeats 1000000
namespace DL
open PySem PySem.Spec PyProof.Rows L2 PySem.SeqAt
open PySem.W (alike alikeAll dataLt dataLe rcLt_alike AllAlike Sortable EachIs)

/-! ### a def's text, read -/
structure Cs where
  N : List Str
  sc : Scope
  fnB : Str → Bool
  kons : List (Str × Dat)
  blts : List Str
  fns : List (Str × List Bool × Spec)
  keys : List (Str × Spec)
  news : List (Str × Spec)
structure XOk (X : Cx) (cs : Cs) : Prop where
  calm : X.calm = true
  sc : X.env.scope = cs.sc
  N : X.N = cs.N
  nd : cs.N.Nodup
  kind : cs.sc.kind = .function
  xe : X.xe = fun _ _ => False
  fn : ∀ x, cs.fnB x = true → X.fn x = true
  bl : ∀ x, x ∈ cs.blts → X.mg x = none
  kons : ∀ x d, (x, d) ∈ cs.kons → ∃ v u, X.mg x = some u ∧ RelV v u ∧ ∀ H W, Rp X.K H W v d
  fns : ∀ x fs F, (x, fs, F) ∈ cs.fns → ∃ f fd ps k, FnOk X.prog X.w X.K X.mg X.base CX0 k f fd ps (spOf X.K F) ∧ Room k X.A ∧ X.mg x = some (.ref f) ∧ PySem.W.keepIn X.K (.ref f) = true ∧ Binds X.K fd ps []
  keys : ∀ x F, (x, F) ∈ cs.keys → ∃ f fd ps k, FnOk X.prog X.w X.K X.mg X.base CX0 k f fd ps (spOf X.K F) ∧ Room (k + 1) X.A ∧ X.mg x = some (.ref f) ∧ Binds X.K fd ps []
  news : ∀ x F, (x, F) ∈ cs.news → ∃ f fd ps k, FnOk X.prog X.w X.K X.mg X.base CX0 k f fd ps (spNew X.K F) ∧ Room k X.A ∧ X.mg x = some (.ref f) ∧ PySem.W.keepIn X.K (.ref f) = true ∧ Binds X.K fd ps []
  hu : X.A.units + 65 < cLine
structure Cm where
  E : Cs → Expr → Option SE
  T : Cs → Expr → Option SB
structure CmOk (c : Cm) : Prop where
  E : ∀ (cs : Cs) (X : Cx), XOk X cs → ∀ e s, c.E cs e = some s → PE X e (tE X.K s)
  T : ∀ (cs : Cs) (X : Cx), XOk X cs → ∀ e s, c.T cs e = some s → PT X e (tT X.K s)

/-! ### names -/
def ixOf : List Str → Str → Option Nat
  | [], _ => none
  | y :: ys, x => if y = x then some 0 else (ixOf ys x).map (· + 1)
theorem ixOf_ok : ∀ {N : List Str} {x : Str} {i : Nat}, ixOf N x = some i → N[i]? = some x
  | [], _, _, h => by cases h
  | y :: ys, x, i, h => by
    simp only [ixOf] at h
    split at h
    · rename_i e; cases h; rw [e]; rfl
    · cases e : ixOf ys x with
      | none => rw [e] at h; cases h
      | some j =>
        rw [e] at h
        cases h
        simpa using ixOf_ok e
def plainN (x : Str) : Bool := !(x == ("__debug__" : Str)) && !(x == ("__classdict__" : Str)) && !decide (x = "__name__")
theorem plainN_ok {x : Str} (h : plainN x = true) : (x == ("__debug__" : Str)) = false ∧ (x == ("__classdict__" : Str)) = false ∧ x ≠ "__name__" := by
  unfold plainN at h
  simp only [Bool.and_eq_true, Bool.not_eq_true', decide_eq_false_iff_not] at h
  exact ⟨h.1.1, h.1.2, h.2⟩
/-- a name of the def's own, that may be read -/
def slotOf (cs : Cs) (x : Str) : Option Nat := match cs.sc.names.lookup x with
  | some .local => ixOf cs.N x
  | some .cell => ixOf cs.N x
  | some .free => ixOf cs.N x
  | _ => none
theorem slotOf_ok {cs : Cs} {x : Str} {i : Nat} (h : slotOf cs x = some i) : cs.N[i]? = some x ∧ Vis cs.sc x := by
  unfold slotOf at h
  split at h
  · rename_i e; exact ⟨ixOf_ok h, .inl e⟩
  · rename_i e; exact ⟨ixOf_ok h, .inr (.inl e)⟩
  · rename_i e; exact ⟨ixOf_ok h, .inr (.inr e)⟩
  · cases h
/-- that may be written -/
def storeOf (cs : Cs) (x : Str) : Option Nat := match cs.sc.names.lookup x with
  | some .local => ixOf cs.N x
  | some .cell => if cs.fnB x then ixOf cs.N x else none
  | _ => none
theorem storeOf_ok {X : Cx} {cs : Cs} (ok : XOk X cs) {x : Str} {i : Nat} (h : storeOf cs x = some i) : X.N[i]? = some x ∧ Loc X.env.scope x ∧ (X.fn x = true ∨ X.env.scope.names.lookup x = some .local) := by
  unfold storeOf at h
  rw [ok.N, ok.sc]
  split at h
  · rename_i e; exact ⟨ixOf_ok h, .inl e, .inr e⟩
  · rename_i e
    split at h
    · rename_i f; exact ⟨ixOf_ok h, .inr e, .inl (ok.fn x f)⟩
    · cases h
  · cases h
def glb (cs : Cs) (x : Str) : Bool := match cs.sc.names.lookup x with
  | some .globalImplicit => true
  | _ => false
theorem glb_ok {X : Cx} {cs : Cs} (ok : XOk X cs) {x : Str} (h : glb cs x = true) : Gl X x := by
  unfold glb at h
  split at h
  · rename_i e
    show X.env.scope.names.lookup x = some .globalImplicit
    rw [ok.sc]; exact e
  · cases h
/-- a builtin's name -/
def isB (cs : Cs) (x : Str) : Bool := glb cs x && decide (x ∈ cs.blts)
theorem isB_ok {X : Cx} {cs : Cs} (ok : XOk X cs) {x : Str} (h : isB cs x = true) : Gl X x ∧ X.mg x = none := by
  obtain ⟨h1, h2⟩ := Bool.and_eq_true_iff.mp h
  exact ⟨glb_ok ok h1, ok.bl x (of_decide_eq_true h2)⟩
def look {α : Type} : List (Str × α) → Str → Option α
  | [], _ => none
  | (y, a) :: r, x => if y = x then some a else look r x
theorem look_ok {α : Type} : ∀ {l : List (Str × α)} {x : Str} {a : α}, look l x = some a → (x, a) ∈ l
  | [], _, _, h => by cases h
  | (y, b) :: r, x, a, h => by
    simp only [look] at h
    split at h
    · rename_i e; cases h; rw [e]; exact List.mem_cons_self
    · exact List.mem_cons_of_mem _ (look_ok h)
def cName (cs : Cs) (x : Str) : Option SE := if plainN x then (match slotOf cs x with
  | some i => some (c_var i)
  | none => if glb cs x then (look cs.kons x).map c_lit else none) else none
section
variable {X : Cx} {cs : Cs}
theorem cName_ok (ok : XOk X cs) {x : Str} {pos : Pos} {s : SE} (h : cName cs x = some s) : PE X (.Name x pos) (tE X.K s) := by
  unfold cName at h
  split at h
  · rename_i hp
    obtain ⟨p1, p2, p3⟩ := plainN_ok hp
    split at h
    · rename_i i e
      cases h
      obtain ⟨h1, h2⟩ := slotOf_ok e
      exact e_var (by rw [ok.N]; exact h1) (by rw [ok.sc]; exact h2) p1 p2
    · split at h
      · rename_i g
        cases e : look cs.kons x with
        | none => rw [e] at h; cases h
        | some d =>
          rw [e] at h
          cases h
          obtain ⟨v, u, h1, h2, h3⟩ := ok.kons x d (look_ok e)
          exact PE.imp (pe_glob (glb_ok ok g) h1 h2 p1) fun σ H Q ⟨ρ, W, rf, k, E, h, q⟩ => q _ _ _ _ _ h (Go.refl E) (h3 H W)
      · cases h
  · cases h

/-! ### lists of expressions -/
def notStar : Expr → Bool
  | .Starred .. => false
  | _ => true
theorem starE {e : Expr} {es : List Expr} {env : Env} (h : notStar e = true) : starEach (e :: es) env = (false, eval e env) :: starEach es env := by
  cases e <;> first | rfl | cases h
theorem plainA {pos : Pos} {env : Env} : ∀ {es : List Expr}, es.all notStar = true → (backTo pos (starEach es env)).any (·.1) = false
  | [], _ => rfl
  | e :: es, h => by
    rw [List.all_cons] at h
    obtain ⟨h1, h2⟩ := Bool.and_eq_true_iff.mp h
    rw [starE h1]
    show (false || (backTo pos (starEach es env)).any (·.1)) = false
    rw [plainA h2]
    rfl
def cArgs (c : Cm) (cs : Cs) : List Expr → Option SA
  | [] => some a_nil
  | e :: es => if notStar e then (match c.E cs e, cArgs c cs es with
    | some s, some r => some (a_cons s r)
    | _, _ => none) else none
theorem cArgs_ok {c : Cm} (hc : CmOk c) (ok : XOk X cs) : ∀ {es : List Expr} {s : SA}, cArgs c cs es = some s → PA X es (tA X.K s) ∧ es.all notStar = true
  | [], s, h => by cases h; exact ⟨e_anil, rfl⟩
  | e :: es, s, h => by
    simp only [cArgs] at h
    split at h
    · rename_i n
      split at h
      · rename_i s r e1 e2
        cases h
        obtain ⟨h1, h2⟩ := cArgs_ok hc ok e2
        exact ⟨e_acons (hc.E cs X ok _ _ e1) h1 (starE n), by rw [List.all_cons, n, h2]; rfl⟩
      · cases h
    · cases h

/-! ### operators -/
def opF : Operator → Option F2
  | .Add => some bAdd
  | .Sub => some bSub
  | .Mult => some bMul
  | .FloorDiv => some bDiv
  | .Mod => some bMod
  | .LShift => some bShl
  | .Pow => some bPow
  | .BitXor => some bXor
  | _ => none
theorem opF_ok {op : Operator} {f : F2} (h : opF op = some f) : OpR X (binaryOp op) (rB X.K f) := by
  cases op <;> first | (cases h; first | exact o_add | exact o_sub | exact o_mul | exact o_div | exact o_mod | exact o_shl | exact o_pow | exact o_xor) | cases h
def iopF : Operator → Option F2
  | .Add => some bIAdd
  | .Sub => some bSub
  | .Mult => some bIMul
  | _ => none
theorem iopF_ok {op : Operator} {f : F2} (h : iopF op = some f) : OpR X (inplaceOp op) (rB X.K f) := by
  cases op <;> first | (cases h; first | exact o_iadd | exact o_isub | exact o_imul) | cases h
def cmpF : CmpOp → Option B2
  | .Eq => some bEq
  | .NotEq => some bNe
  | .Lt => some bLt
  | .LtE => some bLe
  | .Gt => some bGt
  | .GtE => some bGe
  | .Is => some bIs
  | .IsNot => some bIsNot
  | .In => some bIn
  | .NotIn => some bNotIn
theorem cmpF_ok (ok : XOk X cs) {op : CmpOp} {f : B2} (h : cmpF op = some f) : OpR X (compareOp op) (rB X.K (bF f)) := by
  have h1 := ok.hu
  have h2 : X.A.units + 64 < cLine := by omega
  cases op <;> (cases h; first | exact o_eq h2 | exact o_ne h2 | exact o_lt h2 | exact o_le | exact o_gt | exact o_ge | exact o_is | exact o_isnot | exact o_in h1 | exact o_notin h1)
def notSet : Expr → Bool
  | .Set .. => false
  | _ => true
theorem noMark {op : CmpOp} {e : Expr} (h : notSet e = true) : behindInMarks op e = false := by
  cases e <;> first | rfl | cases h
theorem noMarks : ∀ {ops : List CmpOp} {es : List Expr}, es.all notSet = true → lastMarks ops es = false
  | [], [], _ => rfl
  | [], _ :: _, _ => rfl
  | [_], [], _ => rfl
  | _ :: _ :: _, [], _ => rfl
  | [op], [e], h => by
    rw [List.all_cons] at h
    exact noMark (Bool.and_eq_true_iff.mp h).1
  | [op], e :: e' :: es, h => by
    simp only [lastMarks]
  | op :: op' :: ops, e :: es, h => by
    rw [List.all_cons] at h
    simp only [lastMarks]
    exact noMarks (Bool.and_eq_true_iff.mp h).2
/-- the links behind the first -/
def cLinks (c : Cm) (cs : Cs) : List CmpOp → List Expr → Option SQ
  | [op], [e] => match cmpF op, c.E cs e with
    | some f, some s => some (q_one f s)
    | _, _ => none
  | op :: op' :: ops, e :: e' :: es => match cmpF op, c.E cs e, cLinks c cs (op' :: ops) (e' :: es) with
    | some f, some s, some r => some (q_cons f s r)
    | _, _, _ => none
  | _, _ => none
theorem cLinks_ok {c : Cm} (hc : CmOk c) (ok : XOk X cs) : ∀ {ops : List CmpOp} {es : List Expr} {r : SQ}, cLinks c cs ops es = some r → PQ X ops es (tQ X.K r)
  | [], [], _, h => by simp [cLinks] at h
  | [], _ :: _, _, h => by simp [cLinks] at h
  | [_], [], _, h => by simp [cLinks] at h
  | _ :: _ :: _, [], _, h => by simp [cLinks] at h
  | [op], [e], r, h => by
    simp only [cLinks] at h
    split at h
    · rename_i f s e1 e2
      cases h
      exact q_one_ok (cmpF_ok ok e1) (hc.E cs X ok _ _ e2)
    · cases h
  | [op], e :: e' :: es, r, h => by simp [cLinks] at h
  | op :: op' :: ops, [e], r, h => by simp [cLinks] at h
  | op :: op' :: ops, e :: e' :: es, r, h => by
    simp only [cLinks] at h
    split at h
    · rename_i f s t e1 e2 e3
      cases h
      exact q_cons_ok (cmpF_ok ok e1) (hc.E cs X ok _ _ e2) (cLinks_ok hc ok e3)
    · cases h
def cCmp (c : Cm) (cs : Cs) (a : Expr) (ops : List CmpOp) (es : List Expr) : Option SE := if es.all notSet then (match ops, es with
  | [op], [b] => match cmpF op, c.E cs a, c.E cs b with
    | some f, some s, some t => some (c_cmp f s t)
    | _, _, _ => none
  | op :: op' :: ops, b :: b' :: es => match c.E cs a, cLinks c cs (op :: op' :: ops) (b :: b' :: es) with
    | some s, some r => some (c_chain s r)
    | _, _ => none
  | _, _ => none) else none
theorem cCmp_ok {c : Cm} (hc : CmOk c) (ok : XOk X cs) {a : Expr} {ops : List CmpOp} {es : List Expr} {pos : Pos} {s : SE} (h : cCmp c cs a ops es = some s) : PE X (.Compare a ops es pos) (tE X.K s) ∧ PT X (.Compare a ops es pos) (tT X.K (c_val s)) := by
  unfold cCmp at h
  split at h
  · rename_i hn
    split at h
    · rename_i op b
      split at h
      · rename_i f s t e1 e2 e3
        cases h
        have hm : behindInMarks op b = false := noMark (by rw [List.all_cons] at hn; exact (Bool.and_eq_true_iff.mp hn).1)
        exact ⟨e_cmp (cmpF_ok ok e1) (hc.E cs X ok _ _ e2) (hc.E cs X ok _ _ e3) hm, t_cmp (cmpF_ok ok e1) (hc.E cs X ok _ _ e2) (hc.E cs X ok _ _ e3) hm⟩
      · cases h
    · split at h
      · rename_i s r e1 e2
        cases h
        exact ⟨e_chain (hc.E cs X ok _ _ e1) (cLinks_ok hc ok e2) (noMarks hn), t_chain (hc.E cs X ok _ _ e1) (cLinks_ok hc ok e2) (noMarks hn)⟩
      · cases h
    · cases h
  · cases h
def cBoolV (c : Cm) (cs : Cs) (op : BoolOp) : List Expr → Option SE
  | [e] => c.E cs e
  | e :: e' :: es => match c.E cs e, cBoolV c cs op (e' :: es) with
    | some s, some t => some (match op with | .And => c_andV s t | .Or => c_orV s t)
    | _, _ => none
  | _ => none
theorem cBoolV_ok {c : Cm} (hc : CmOk c) (ok : XOk X cs) {op : BoolOp} {pos : Pos} : ∀ {es : List Expr} {s : SE}, cBoolV c cs op es = some s → PE X (.BoolOp op es pos) (tE X.K s)
  | [], _, h => by simp [cBoolV] at h
  | [e], s, h => e_one (hc.E cs X ok _ _ h)
  | e :: e' :: es, s, h => by
    simp only [cBoolV] at h
    split at h
    · rename_i s t e1 e2
      cases h
      cases op with
      | And => exact e_and (hc.E cs X ok _ _ e1) (cBoolV_ok hc ok e2)
      | Or => exact e_or (hc.E cs X ok _ _ e1) (cBoolV_ok hc ok e2)
    · cases h
def cBoolT (c : Cm) (cs : Cs) (op : BoolOp) : List Expr → Option SB
  | [e] => c.T cs e
  | e :: e' :: es => match c.T cs e, cBoolT c cs op (e' :: es) with
    | some s, some t => some (match op with | .And => c_and s t | .Or => c_or s t)
    | _, _ => none
  | _ => none
theorem cBoolT_ok {c : Cm} (hc : CmOk c) (ok : XOk X cs) {op : BoolOp} {pos : Pos} : ∀ {es : List Expr} {s : SB}, cBoolT c cs op es = some s → PW X (.BoolOp op es pos) (tT X.K s)
  | [], _, h => by simp [cBoolT] at h
  | [e], s, h => by
    cases op with
    | And => exact w_and1 (hc.T cs X ok _ _ h)
    | Or => exact w_or1 (hc.T cs X ok _ _ h)
  | e :: e' :: es, s, h => by
    simp only [cBoolT] at h
    split at h
    · rename_i s t e1 e2
      cases h
      cases op with
      | And => exact w_and (hc.T cs X ok _ _ e1) (cBoolT_ok hc ok e2)
      | Or => exact w_or (hc.T cs X ok _ _ e1) (cBoolT_ok hc ok e2)
    · cases h
def fNeg : F2 := fun d _ k => match d with
  | .int i => k (.dat (.int (-i)))
  | _ => False
def c_neg (s : SE) : SE := fun ρ k => s ρ fun x ρ1 => match x with
  | .dat (.int i) => k (.dat (.int (-i))) ρ1
  | _ => False
theorem e_neg {e : Expr} {pos : Pos} {s : SE} (h : PE X e (tE X.K s)) : PE X (.UnaryOp .USub e pos) (tE X.K (c_neg s)) :=
  PE.imp (pe_un un_neg h) fun σ H Q ⟨ρ, W, rf, k, E, h, q⟩ => ⟨ρ, W, rf, _, E, h, fun x ρ1 v H1 W1 h1 G1 r1 => by
    split at h1
    · have r1 : Rp X.K H1 W1 v _ := r1
      cases r1
      exact ⟨_, rfl, q _ _ _ _ _ h1 G1 (.int _)⟩
    · exact h1.elim⟩

/-! ### subscripts -/
def notSlice : Expr → Bool
  | .Slice .. => false
  | _ => true
theorem plainIx {e : Expr} (h : notSlice e = true) : PlainIx e := by
  intro o i
  cases e <;> first | rfl | cases h
def cPart (c : Cm) (cs : Cs) : Option Expr → Option SO
  | none => some o_no
  | some e => (c.E cs e).map o_some
theorem cPart_ok {c : Cm} (hc : CmOk c) (ok : XOk X cs) {e : Option Expr} {s : SO} (h : cPart c cs e = some s) : PO X e (tO X.K s) := by
  cases e with
  | none => cases h; exact e_ono
  | some e =>
    simp only [cPart] at h
    cases q : c.E cs e with
    | none => rw [q] at h; cases h
    | some t =>
      rw [q] at h
      cases h
      exact e_osome (hc.E cs X ok _ _ q)
def cSub (c : Cm) (cs : Cs) (a b : Expr) : Option SE := match b with
  | .Slice none none (some (.UnaryOp .USub (.Constant (.int 1) _ _) _)) _ => (c.E cs a).map c_rev
  | .Slice lo hi none _ => match c.E cs a, cPart c cs lo, cPart c cs hi with
    | some s, some l, some u => some (c_slice fSl s l u)
    | _, _, _ => none
  | b => if notSlice b then (match c.E cs a, c.E cs b with
    | some s, some t => some (c_idx fIdx s t)
    | _, _ => none) else none
theorem cSub_ok {c : Cm} (hc : CmOk c) (ok : XOk X cs) {a b : Expr} {pos : Pos} {s : SE} (h : cSub c cs a b = some s) : PE X (.Subscript a b pos) (tE X.K s) := by
  unfold cSub at h
  split at h
  · cases e1 : c.E cs a with
    | none => rw [e1] at h; cases h
    | some t => rw [e1] at h; cases h; exact e_revT (hc.E cs X ok _ _ e1)
  · split at h
    · rename_i s l u e1 e2 e3
      cases h
      exact e_slice o_sl (hc.E cs X ok _ _ e1) (cPart_ok hc ok e2) (cPart_ok hc ok e3)
    · cases h
  · split at h
    · rename_i n
      split at h
      · rename_i s t e1 e2
        cases h
        exact e_idx o_idx (hc.E cs X ok _ _ e1) (hc.E cs X ok _ _ e2) (plainIx n)
      · cases h
    · cases h
end
end DL

/-! text E11 -/
set_option Elab.async false
set_option linter.all false
set_option maxRecDepth 100000
set_option maxHeartbeats 1000000
namespace DL
open PySem PySem.Spec PyProof.Rows L2 PySem.SeqAt
open PySem.W (alike alikeAll dataLt dataLe rcLt_alike AllAlike Sortable EachIs)
section
variable {X : Cx} {cs : Cs}

/-! ### builtins by name -/
def bltOf (x : Str) : Option FN :=
  if x = "len" then some gLen else if x = "int" then some gInt else if x = "str" then some gStr else if x = "list" then some gList else if x = "tuple" then some gTuple
  else if x = "all" then some gAll else if x = "any" then some gAny else if x = "sum" then some gSum else if x = "max" then some gMax else if x = "min" then some gMin else if x = "sorted" then some gSorted else none
theorem boot_all' : bootBuiltins "all" = some (.builtin "all") := by decide +kernel
theorem boot_any' : bootBuiltins "any" = some (.builtin "any") := by decide +kernel
theorem bltOf_ok (ok : XOk X cs) {x : Str} {g : FN} (h : bltOf x = some g) : (∃ id, bootBuiltins x = some (.builtin id) ∧ CallR X (.builtin id) (rC X.K g)) ∨ ∃ T, bootBuiltins x = some (.type T) ∧ CallR X (.type T) (rC X.K g) := by
  have h1 := ok.hu
  have h2 : X.A.units + 64 < cLine := by omega
  unfold bltOf at h
  split at h
  · rename_i e; subst e; cases h; exact .inl ⟨_, PySem.boot_len, k_len⟩
  split at h
  · rename_i e; subst e; cases h; exact .inr ⟨_, PyProof.Rows.boot_int, k_int⟩
  split at h
  · rename_i e; subst e; cases h; exact .inr ⟨_, PyProof.Rows.boot_str, k_str⟩
  split at h
  · rename_i e; subst e; cases h; exact .inr ⟨_, PyProof.Rows.boot_list, k_list⟩
  split at h
  · rename_i e; subst e; cases h; exact .inr ⟨_, PyProof.Rows.boot_tuple, k_tuple⟩
  split at h
  · rename_i e; subst e; cases h; exact .inl ⟨_, boot_all', k_all ok.calm⟩
  split at h
  · rename_i e; subst e; cases h; exact .inl ⟨_, boot_any', k_any ok.calm⟩
  split at h
  · rename_i e; subst e; cases h; exact .inl ⟨_, PyProof.Rows.boot_sum, k_sum ok.calm⟩
  split at h
  · rename_i e; subst e; cases h; exact .inl ⟨_, PyProof.Rows.boot_max, k_max ok.calm⟩
  split at h
  · rename_i e; subst e; cases h; exact .inl ⟨_, PyProof.Rows.boot_min, k_min ok.calm⟩
  split at h
  · rename_i e; subst e; cases h; exact .inl ⟨_, PyProof.Rows.boot_sorted, k_sorted h2⟩
  · cases h
def isiOf (x : Str) : Option String := if x = "int" then some "int" else if x = "bool" then some "bool" else if x = "str" then some "str" else if x = "tuple" then some "tuple" else if x = "list" then some "list" else none
theorem isiOf_ok {x : Str} {n : String} (h : isiOf x = some n) : bootBuiltins x = some (.type n) ∧ (∀ t ∈ ["NoneType", "bool", "int", "str", "list", "tuple"], (kitB t n).isSome = true) := by
  unfold isiOf at h
  split at h
  · rename_i e; subst e; cases h; exact ⟨PyProof.Rows.boot_int, by decide +kernel⟩
  split at h
  · rename_i e; subst e; cases h; exact ⟨PyProof.Rows.boot_bool, by decide +kernel⟩
  split at h
  · rename_i e; subst e; cases h; exact ⟨PyProof.Rows.boot_str, by decide +kernel⟩
  split at h
  · rename_i e; subst e; cases h; exact ⟨PyProof.Rows.boot_tuple, by decide +kernel⟩
  split at h
  · rename_i e; subst e; cases h; exact ⟨PyProof.Rows.boot_list, by decide +kernel⟩
  · cases h
/-- the calls of isinstance -/
def cIsi (c : Cm) (cs : Cs) (e : Expr) : Expr → Option SE
  | .Name x _ => if isB cs "isinstance" && isB cs x && plainN x && notStar e then (match isiOf x, c.E cs e with
    | some n, some s => some (c_isi n s)
    | _, _ => none) else none
  | _ => none
theorem cIsi_ok {c : Cm} (hc : CmOk c) (ok : XOk X cs) {e t : Expr} {p pos : Pos} {s : SE} (h : cIsi c cs e t = some s) : PE X (.Call (.Name "isinstance" p) [e, t] [] pos) (tE X.K s) := by
  unfold cIsi at h
  split at h
  · rename_i x q
    split at h
    · rename_i hh
      simp only [Bool.and_eq_true] at hh
      obtain ⟨⟨⟨b1, b2⟩, b3⟩, b4⟩ := hh
      split at h
      · rename_i n s e1 e2
        cases h
        obtain ⟨g1, m1⟩ := isB_ok ok b1
        obtain ⟨g2, m2⟩ := isB_ok ok b2
        obtain ⟨p1, p2, p3⟩ := plainN_ok b3
        obtain ⟨h1, h2⟩ := isiOf_ok e1
        exact e_isi g1 m1 g2 m2 h1 p3 p1 h2 (hc.E cs X ok _ _ e2) (starE b4) rfl
      · cases h
    · cases h
  · cases h
/-- a call of a name -/
def lookN : List (Str × Spec) → Str → Option Spec
  | [], _ => none
  | (y, F) :: r, x => if y = x then some F else lookN r x
theorem lookN_ok : ∀ {l : List (Str × Spec)} {x : Str} {F : Spec}, lookN l x = some F → (x, F) ∈ l
  | [], _, _, h => by cases h
  | (y, G) :: r, x, F, h => by
    simp only [lookN] at h
    split at h
    · rename_i e; cases h; subst e; exact List.mem_cons_self ..
    · exact List.mem_cons_of_mem _ (lookN_ok h)
def cNew (c : Cm) (cs : Cs) (x : Str) (F : Spec) (es : List Expr) : Option SE := if glb cs x then (match es with
      | [] => none
      | e :: es => match cArgs c cs (e :: es) with
        | some s => some (c_callN F s)
        | none => none) else none
def cMaxK (c : Cm) (cs : Cs) (x y : Str) (k : Option Str) (e : Expr) : Option SE :=
  if x = "max" ∧ k = some "key" ∧ isB cs "max" = true ∧ glb cs y = true ∧ plainN y = true then (match lookN cs.keys y, cArgs c cs [e] with
    | some F, some s => some (c_fn (gMaxK F) s)
    | _, _ => none) else none
theorem cMaxK_ok {c : Cm} (hc : CmOk c) (ok : XOk X cs) {x y : Str} {k : Option Str} {e : Expr} {p p2 pos kpos : Pos} {s : SE} (h : cMaxK c cs x y k e = some s) : PE X (.Call (.Name x p) [e] [⟨k, .Name y p2, kpos⟩] pos) (tE X.K s) := by
  unfold cMaxK at h
  split at h
  · rename_i hh
    obtain ⟨rfl, rfl, h1, h2, h3⟩ := hh
    obtain ⟨hg, hm⟩ := isB_ok ok h1
    split at h
    · rename_i F s' e1 e2
      cases h
      obtain ⟨f, fd, ps, kk, G, hr, hmy, hb⟩ := ok.keys _ _ (lookN_ok e1)
      obtain ⟨a1, a2⟩ := cArgs_ok hc ok e2
      rw [List.all_cons] at a2
      obtain ⟨a2, a3⟩ := Bool.and_eq_true_iff.mp a2
      exact e_maxK ok.calm G hr hb (glb_ok ok h2) hmy (plainN_ok h3).1 hg hm a1 (starE a2)
    · cases h
  · cases h
def cCallN (c : Cm) (cs : Cs) (x : Str) (es : List Expr) : Option SE :=
  if plainN x then
    match lookN cs.news x with
    | some F => cNew c cs x F es
    | none => (match look cs.fns x with
    | some (fs, F) => if glb cs x then (match es with
      | [] => some (c_call F a_nil)
      | e :: es => match cArgs c cs (e :: es) with
        | some s => if fs.any id then some (c_callR F fs s) else some (c_call F s)
        | none => none) else none
    | none => if x = "isinstance" then (match es with
        | [e, t] => cIsi c cs e t
        | _ => none)
      else if isB cs x then (match bltOf x, es, cArgs c cs es with
        | some g, _ :: _, some s => some (c_fn g s)
        | _, _, _ => none) else none)
  else none
theorem cCallN_ok {c : Cm} (hc : CmOk c) (ok : XOk X cs) {x : Str} {es : List Expr} {p pos : Pos} {s : SE} (h : cCallN c cs x es = some s) : PE X (.Call (.Name x p) es [] pos) (tE X.K s) := by
  unfold cCallN at h
  split at h
  · rename_i hp
    obtain ⟨p1, p2, p3⟩ := plainN_ok hp
    split at h
    · rename_i F e0
      obtain ⟨f, fd, ps, k, G, hr, hm, hk, hb⟩ := ok.news x F (lookN_ok e0)
      unfold cNew at h
      split at h
      · rename_i g
        have hg := glb_ok ok g
        split at h
        · cases h
        · rename_i e es
          split at h
          · rename_i s' e1
            cases h
            obtain ⟨h1, h2⟩ := cArgs_ok hc ok e1
            rw [List.all_cons] at h2
            obtain ⟨h2, h3⟩ := Bool.and_eq_true_iff.mp h2
            exact e_callN G hr hg hm hk hb h1 p1 (starE h2) (plainA h3)
          · cases h
      · cases h
    split at h
    · rename_i fs F e0
      obtain ⟨f, fd, ps, k, G, hr, hm, hk, hb⟩ := ok.fns x fs F (look_ok e0)
      split at h
      · rename_i g
        have hg := glb_ok ok g
        split at h
        · cases h
          exact e_call0 G hr hg hm hk hb p1
        · rename_i e es
          split at h
          · rename_i s' e1
            obtain ⟨h1, h2⟩ := cArgs_ok hc ok e1
            rw [List.all_cons] at h2
            obtain ⟨h2, h3⟩ := Bool.and_eq_true_iff.mp h2
            split at h
            · cases h
              exact e_callR G hr hg hm hk hb h1 p1 (starE h2) (plainA h3)
            · cases h
              exact e_call G hr hg hm hk hb h1 p1 (starE h2) (plainA h3)
          · cases h
      · cases h
    · split at h
      · rename_i ex
        subst ex
        split at h
        · exact cIsi_ok hc ok h
        · cases h
      · split at h
        · rename_i hb
          obtain ⟨hg, hm⟩ := isB_ok ok hb
          split at h
          · rename_i g e es s' e1 e2
            cases h
            obtain ⟨h1, h2⟩ := cArgs_ok hc ok e2
            rw [List.all_cons] at h2
            obtain ⟨h2, h3⟩ := Bool.and_eq_true_iff.mp h2
            rcases bltOf_ok ok e1 with ⟨id, hv, hcr⟩ | ⟨T, hv, hcr⟩
            · exact e_fnB hcr hg hm hv h1 p3 p1 (starE h2) (plainA h3)
            · exact e_fnT hcr hg hm hv h1 p3 p1 (starE h2) (plainA h3)
          · cases h
        · cases h
  · cases h

/-! ### methods -/
def isSuper : Expr → Bool
  | .Call _ _ _ _ => true
  | _ => false
theorem base_of {o : Expr} {m : Str} {env : Env} (h : isSuper o = false) : attributeBase o m env (eval o env) = eval o env := by
  cases o <;> first | rfl | cases h
def cMeth (c : Cm) (cs : Cs) (o : Expr) (m : Str) (es : List Expr) (apos pos : Pos) : Option SE :=
  if apos.endLine == pos.line then
    (match o with
    | .Constant (.str z) _ _ => if m = "join" then (match es with
      | [e] => if notStar e then (c.E cs e).map fun s => c_meth mJoin (c_lit (.str z)) (a_cons s a_nil) else none
      | _ => none) else none
    | .Name x _ => if m = "pop" then (match slotOf cs x, plainN x, es with
      | some i, true, [] => some (c_pop0 i)
      | some i, true, [e] => if notStar e then (c.E cs e).map fun s => c_popA i s else none
      | _, _, _ => none) else none
    | _ => none)
  else none
theorem mJoin_str : strFirst mJoin := fun d ds P h => by
  unfold mJoin at h
  split at h
  · exact ⟨_, rfl⟩
  · exact ⟨_, rfl⟩
  · exact h.elim
theorem var_of (ok : XOk X cs) {x : Str} {i : Nat} {pos : Pos} (h : slotOf cs x = some i) (hp : plainN x = true) : PE X (.Name x pos) (tVar i) := by
  obtain ⟨h1, h2⟩ := slotOf_ok h
  obtain ⟨p1, p2, p3⟩ := plainN_ok hp
  exact pe_var (by rw [ok.N]; exact h1) (by rw [ok.sc]; exact h2) p1 p2
theorem cMeth_ok {c : Cm} (hc : CmOk c) (ok : XOk X cs) {o : Expr} {m : Str} {es : List Expr} {apos pos : Pos} {s : SE} (h : cMeth c cs o m es apos pos = some s) : PE X (.Call (.Attribute o m apos) es [] pos) (tE X.K s) := by
  unfold cMeth at h
  split at h
  · rename_i hl
    split at h
    · rename_i z j q
      split at h
      · rename_i em
        subst em
        split at h
        · rename_i e
          split at h
          · rename_i n
            cases e1 : c.E cs e with
            | none => rw [e1] at h; cases h
            | some s' =>
              rw [e1] at h
              cases h
              exact e_m1 PySem.F.slot_str_join PySem.F.type_str_join m_join mJoin_str e_str (hc.E cs X ok _ _ e1) ⟨z, rfl⟩ (starE n) rfl hl
          · cases h
        · cases h
      · cases h
    · rename_i x q
      split at h
      · rename_i em
        subst em
        split at h
        · rename_i i e1 e2
          cases h
          exact e_pop0 (var_of ok e1 e2) rfl hl
        · rename_i i e e1 e2
          split at h
          · rename_i n
            cases e3 : c.E cs e with
            | none => rw [e3] at h; cases h
            | some s' =>
              rw [e3] at h
              cases h
              refine e_popA (var_of ok e1 e2) (hc.E cs X ok _ _ e3) rfl ?_ hl (starE n) rfl
              rw [starE n]
              rfl
          · cases h
        · cases h
      · cases h
    · cases h
  · cases h

/-! ### targets -/
theorem asgE {e : Expr} {es : List Expr} {env : Env} (h : notStar e = true) : assignEach (e :: es) env = (false, assign e env) :: assignEach es env := by
  cases e <;> first | rfl | cases h
theorem asg_len {env : Env} : ∀ {es : List Expr}, es.all notStar = true → (assignEach es env).length = es.length ∧ (assignEach es env).findIdx? (·.1) = none
  | [], _ => ⟨rfl, rfl⟩
  | e :: es, h => by
    rw [List.all_cons] at h
    obtain ⟨h1, h2⟩ := Bool.and_eq_true_iff.mp h
    obtain ⟨h3, h4⟩ := asg_len (env := env) h2
    rw [asgE h1]
    refine ⟨by rw [List.length_cons, h3, List.length_cons], ?_⟩
    rw [List.findIdx?_cons, h4]
    rfl
mutual
def cTg (cs : Cs) (vs : List Nat) : Nat → Expr → Option SG
  | 0, _ => none
  | n + 1, e => match e with
    | .Name x _ => match storeOf cs x with
      | some i => if i ∈ vs then some (g_name i) else none
      | none => none
    | .Tuple es _ _ => (cTgs cs vs n es).map (g_tup es.length)
    | _ => none
def cTgs (cs : Cs) (vs : List Nat) : Nat → List Expr → Option SGs
  | 0, _ => none
  | n + 1, es => match es with
    | [] => some g_nil
    | e :: es => if notStar e then (match cTg cs vs n e, cTgs cs vs n es with
      | some g, some gs => some (g_cons g gs)
      | _, _ => none) else none
end
mutual
theorem cTg_ok (ok : XOk X cs) {vs : List Nat} : ∀ (n : Nat) {e : Expr} {g : SG}, cTg cs vs n e = some g → PG X e (tG X.K vs g)
  | 0, _, _, h => by simp [cTg] at h
  | n + 1, e, g, h => by
    simp only [cTg] at h
    split at h
    · rename_i x p
      split at h
      · rename_i i e1
        split at h
        · rename_i hm
          cases h
          obtain ⟨h1, h2, h3⟩ := storeOf_ok ok e1
          exact d_name hm (by rw [ok.N]; exact ok.nd) h1 h2 h3
        · cases h
      · cases h
    · rename_i es k p
      cases e1 : cTgs cs vs n es with
      | none => rw [e1] at h; cases h
      | some gs =>
        rw [e1] at h
        cases h
        obtain ⟨h1, h2⟩ := cTgs_ok ok n e1
        obtain ⟨h3, h4⟩ := asg_len (env := X.env) h2
        exact d_tup ok.calm h1 h3 h4
    · cases h
theorem cTgs_ok (ok : XOk X cs) {vs : List Nat} : ∀ (n : Nat) {es : List Expr} {g : SGs}, cTgs cs vs n es = some g → PGs X es (tGs X.K vs g) ∧ es.all notStar = true
  | 0, _, _, h => by simp [cTgs] at h
  | n + 1, es, g, h => by
    simp only [cTgs] at h
    split at h
    · cases h; exact ⟨d_nil, rfl⟩
    · rename_i e es
      split at h
      · rename_i ns
        split at h
        · rename_i g gs e1 e2
          cases h
          obtain ⟨h1, h2⟩ := cTgs_ok ok n e2
          exact ⟨d_cons (cTg_ok ok n e1) h1 (by rw [asgE ns]; rfl), by rw [List.all_cons, ns, h2]; rfl⟩
        · cases h
      · cases h
end

/-! ### walks -/
def isTup : Expr → Bool
  | .Tuple .. => true
  | _ => false
def cSeq (c : Cm) (cs : Cs) (e : Expr) : Option SW := (c.E cs e).map w_seq
def cWalk (c : Cm) (cs : Cs) (tg e : Expr) : Option SW := match e with
  | .Call (.Name x p) es [] pos =>
    if x = "range" then (if isB cs "range" then (match es with
      | [a] => if notStar a then (c.E cs a).map w_rng1 else none
      | [a, b] => if notStar a && notStar b then (match c.E cs a, c.E cs b with
        | some s, some t => some (w_rng2 s t)
        | _, _ => none) else none
      | _ => none) else none)
    else if x = "zip" then (if isB cs "zip" && isTup tg then (match es with
      | [a, b] => if notStar a && notStar b then (match c.E cs a, c.E cs b with
        | some s, some t => some (w_zip s t)
        | _, _ => none) else none
      | _ => none) else none)
    else cSeq c cs (.Call (.Name x p) es [] pos)
  | e => cSeq c cs e
theorem cSeq_ok {c : Cm} (hc : CmOk c) (ok : XOk X cs) {tg e : Expr} {w : SW} (h : cSeq c cs e = some w) : PI X tg e (tI X.K w) := by
  unfold cSeq at h
  cases e1 : c.E cs e with
  | none => rw [e1] at h; cases h
  | some s => rw [e1] at h; cases h; exact i_seq (hc.E cs X ok _ _ e1)
theorem cWalk_ok {c : Cm} (hc : CmOk c) (ok : XOk X cs) {tg e : Expr} {w : SW} (h : cWalk c cs tg e = some w) : PI X tg e (tI X.K w) := by
  unfold cWalk at h
  split at h
  · rename_i x p es pos
    split at h
    · rename_i ex
      subst ex
      split at h
      · rename_i hb
        obtain ⟨hg, hm⟩ := isB_ok ok hb
        split at h
        · rename_i a
          split at h
          · rename_i n
            cases e1 : c.E cs a with
            | none => rw [e1] at h; cases h
            | some s => rw [e1] at h; cases h; exact i_rng1 hg hm (hc.E cs X ok _ _ e1) (starE n)
          · cases h
        · rename_i a b
          split at h
          · rename_i n
            obtain ⟨n1, n2⟩ := Bool.and_eq_true_iff.mp n
            split at h
            · rename_i s t e1 e2
              cases h
              exact i_rng2 hg hm (hc.E cs X ok _ _ e1) (hc.E cs X ok _ _ e2) (by rw [starE n1, starE n2]; rfl) (by rw [starE n2]; rfl)
            · cases h
          · cases h
        · cases h
      · cases h
    · split at h
      · rename_i ex
        subst ex
        split at h
        · rename_i hb
          obtain ⟨hb, ht⟩ := Bool.and_eq_true_iff.mp hb
          obtain ⟨hg, hm⟩ := isB_ok ok hb
          split at h
          · rename_i a b
            split at h
            · rename_i n
              obtain ⟨n1, n2⟩ := Bool.and_eq_true_iff.mp n
              split at h
              · rename_i s t e1 e2
                cases h
                cases tg <;> first | cases ht | skip
                refine i_zip hg hm (hc.E cs X ok _ _ e1) (hc.E cs X ok _ _ e2) (starE n1) (starE n2) ?_
                rw [starE n2]
                rfl
              · cases h
            · cases h
          · cases h
        · cases h
      · exact cSeq_ok hc ok h
  · exact cSeq_ok hc ok h
theorem notFolded {e : Expr} {env : Env} (h : notSet e = true) : ∀ x, foldedSetIterable e env x = pure x := by
  intro x
  cases e <;> first | rfl | cases h

/-! ### comprehensions -/
def ownOf (N : List Str) (scope : Scope) : List (Str × Nat) := scope.names.filterMap fun y => match y.2 with
  | .local => (ixOf N y.1).map fun i => (y.1, i)
  | .cell => (ixOf N y.1).map fun i => (y.1, i)
  | _ => none
def inner (cs : Cs) (scope : Scope) : Cs := { cs with sc := relS scope cs.sc, fnB := fun x => scope.names.lookup x == some .cell }
theorem inner_ok (ok : XOk X cs) {scope : Scope} (hk : scope.kind = .function) (s : Shared) (H : Hp) (C : Addr) (cl : List (Str × Addr)) (fp : List Addr) : XOk (X.blk s H scope (compEnvC scope cl C X.env) fp) (inner cs scope) :=
  ⟨ok.calm, by show relS scope X.env.scope = _; rw [ok.sc]; rfl, ok.N, ok.nd, hk, rfl, fun x h => h, ok.bl, ok.kons, ok.fns, ok.keys, ok.news, ok.hu⟩
def cTests (c : Cm) (cs : Cs) : List Expr → Option SB
  | [] => some b_yes
  | [e] => c.T cs e
  | _ => none
theorem cTests_ok {c : Cm} (hc : CmOk c) (ok : XOk X cs) {ifs : List Expr} {t : SB} (h : cTests c cs ifs = some t) : PTs X ifs (tT X.K t) := by
  unfold cTests at h
  split at h
  · cases h
    exact ⟨fun pins s σ H Q I ⟨ρ, W, rf, k, E, h, q⟩ => pts_nil.run pins s σ H Q I (q _ _ _ _ h (Go.refl E))⟩
  · exact pts_one (hc.T cs X ok _ _ h)
  · cases h
def cLc (c : Cm) (cs : Cs) (elt tg iter : Expr) (ifs : List Expr) (scope : Scope) : Option SE :=
  let own := ownOf cs.N scope
  if blkC cs.N cs.sc scope own && notSet iter then
    (match cWalk c cs tg iter, cTg (inner cs scope) (own.map (·.2)) 5 tg, cTests c (inner cs scope) ifs, c.E (inner cs scope) elt with
    | some w, some g, some t, some s => some (c_lc (own.map (·.2)) w g t s)
    | _, _, _, _ => none)
  else none
theorem cLc_parts {c : Cm} (hc : CmOk c) (ok : XOk X cs) {elt tg iter : Expr} {ifs : List Expr} {scope : Scope} {s : SE} (h : cLc c cs elt tg iter ifs scope = some s) :
    ∃ w g t se, s = c_lc ((ownOf cs.N scope).map (·.2)) w g t se ∧ PI X tg iter (tI X.K w) ∧ BlkOk X.N X.env.scope scope (ownOf cs.N scope) ∧ (∀ (s : Shared) (H : Hp) (C : Addr) (cl : List (Str × Addr)) (fp : List Addr), PG (X.blk s H scope (compEnvC scope cl C X.env) fp) tg (tG X.K ((ownOf cs.N scope).map (·.2)) g)) ∧
      (∀ (s : Shared) (H : Hp) (C : Addr) (cl : List (Str × Addr)) (fp : List Addr), PTs (X.blk s H scope (compEnvC scope cl C X.env) fp) ifs (tT X.K t)) ∧ (∀ (s : Shared) (H : Hp) (C : Addr) (cl : List (Str × Addr)) (fp : List Addr), PE (X.blk s H scope (compEnvC scope cl C X.env) fp) elt (tE X.K se)) ∧ ∀ x, foldedSetIterable iter X.env x = pure x := by
  unfold cLc at h
  simp only at h
  split at h
  · rename_i hb
    obtain ⟨hb, hn⟩ := Bool.and_eq_true_iff.mp hb
    split at h
    · rename_i w g t se e1 e2 e3 e4
      cases h
      have bo : BlkOk cs.N cs.sc scope (ownOf cs.N scope) := blkOk_by hb
      have hk := bo.kind
      refine ⟨w, g, t, se, rfl, cWalk_ok hc ok e1, by rw [ok.N, ok.sc]; exact bo, fun s H C cl fp => ?_, fun s H C cl fp => ?_, fun s H C cl fp => ?_, notFolded hn⟩
      · exact cTg_ok (inner_ok ok hk s H C cl fp) 5 e2
      · exact cTests_ok hc (inner_ok ok hk s H C cl fp) e3
      · exact hc.E _ _ (inner_ok ok hk s H C cl fp) _ _ e4
    · cases h
  · cases h
theorem cLc_ok {c : Cm} (hc : CmOk c) (ok : XOk X cs) {elt tg iter : Expr} {ifs : List Expr} {scope : Scope} {pos : Pos} {s : SE} (h : cLc c cs elt tg iter ifs scope = some s) : PE X (.ListComp elt [⟨tg, iter, ifs, 0⟩] scope pos) (tE X.K s) := by
  obtain ⟨w, g, t, se, rfl, h1, h2, h3, h4, h5, h6⟩ := cLc_parts hc ok h
  exact e_lc ok.calm (by rw [ok.N]; exact ok.nd) h1 h2 h3 h4 h5 h6

/-! ### expressions, tests -/
def stepE (c : Cm) (cs : Cs) (e : Expr) : Option SE := match e with
  | .Name x _ => cName cs x
  | .Constant (.int i) _ _ => some (c_lit (.int i))
  | .Constant (.str z) _ _ => some (c_lit (.str z))
  | .Constant (.bool b) _ _ => some (c_lit (.bool b))
  | .Constant .none _ _ => some (c_lit .none)
  | .BinOp a op b _ => (match opF op, c.E cs a, c.E cs b with
    | some f, some s, some t => some (c_bin f s t)
    | _, _, _ => none)
  | .UnaryOp .Not a _ => (c.E cs a).map c_notV
  | .UnaryOp .USub a _ => (c.E cs a).map c_neg
  | .BoolOp op es _ => cBoolV c cs op es
  | .Compare a ops es _ => cCmp c cs a ops es
  | .IfExp t a b _ => (match c.T cs t, c.E cs a, c.E cs b with
    | some t, some s, some u => some (c_if t s u)
    | _, _, _ => none)
  | .Tuple es _ _ => (cArgs c cs es).map c_tup
  | .List es _ => (cArgs c cs es).map c_lst
  | .Subscript a b _ => cSub c cs a b
  | .Call (.Name x _) es [] _ => cCallN c cs x es
  | .Call (.Name x _) [e] [⟨k, .Name y _, _⟩] _ => cMaxK c cs x y k e
  | .Call (.Attribute o m apos) es [] pos => cMeth c cs o m es apos pos
  | .ListComp elt [⟨tg, iter, ifs, 0⟩] scope _ => cLc c cs elt tg iter ifs scope
  | _ => none
def valTest : Expr → Bool
  | .UnaryOp .. => false
  | .BoolOp .. => false
  | .IfExp .. => false
  | .Compare .. => false
  | _ => true
def stepT (c : Cm) (cs : Cs) (e : Expr) : Option SB := match e with
  | .UnaryOp .Not a _ => (c.T cs a).map c_not
  | .BoolOp op es _ => cBoolT c cs op es
  | .Compare a ops es _ => (cCmp c cs a ops es).map c_val
  | e => if valTest e then (c.E cs e).map c_val else none
theorem map_some {α β : Type} {o : Option α} {f : α → β} {b : β} (h : o.map f = some b) : ∃ a, o = some a ∧ f a = b := by
  cases o with
  | none => cases h
  | some a => cases h; exact ⟨a, rfl, rfl⟩
theorem stepE_ok {c : Cm} (hc : CmOk c) (ok : XOk X cs) {e : Expr} {s : SE} (h : stepE c cs e = some s) : PE X e (tE X.K s) := by
  unfold stepE at h
  split at h
  · exact cName_ok ok h
  · cases h; exact e_int
  · cases h; exact e_str
  · cases h; exact e_bl
  · cases h; exact e_non
  · split at h
    · rename_i f s t e1 e2 e3
      cases h
      exact e_bin (opF_ok e1) (hc.E cs X ok _ _ e2) (hc.E cs X ok _ _ e3)
    · cases h
  · obtain ⟨a, e1, rfl⟩ := map_some h; exact e_not (hc.E cs X ok _ _ e1)
  · obtain ⟨a, e1, rfl⟩ := map_some h; exact e_neg (hc.E cs X ok _ _ e1)
  · exact cBoolV_ok hc ok h
  · exact (cCmp_ok hc ok h).1
  · split at h
    · rename_i f s t e1 e2 e3
      cases h
      exact e_if (hc.T cs X ok _ _ e1) (hc.E cs X ok _ _ e2) (hc.E cs X ok _ _ e3)
    · cases h
  · obtain ⟨a, e1, rfl⟩ := map_some h; exact e_tup (cArgs_ok hc ok e1).1
  · obtain ⟨a, e1, rfl⟩ := map_some h; exact e_lst (cArgs_ok hc ok e1).1
  · exact cSub_ok hc ok h
  · exact cCallN_ok hc ok h
  · exact cMaxK_ok hc ok h
  · exact cMeth_ok hc ok h
  · exact cLc_ok hc ok h
  · cases h
theorem isTrue_val {e : Expr} {env : Env} (h : valTest e = true) : ∀ whole, isTrue e env whole = (do let v ← whole; standAt e.pos; holding [v] (truthy v)) := by
  intro whole
  cases e <;> first | rfl | cases h
theorem stepT_ok {c : Cm} (hc : CmOk c) (ok : XOk X cs) {e : Expr} {s : SB} (h : stepT c cs e = some s) : PT X e (tT X.K s) := by
  unfold stepT at h
  split at h
  · obtain ⟨a, e1, rfl⟩ := map_some h; exact t_not (hc.T cs X ok _ _ e1)
  · exact (cBoolT_ok hc ok h).pt
  · obtain ⟨a, e1, rfl⟩ := map_some h; exact (cCmp_ok hc ok e1).2
  · split at h
    · rename_i hv
      obtain ⟨a, e1, rfl⟩ := map_some h
      exact t_val (hc.E cs X ok _ _ e1) (isTrue_val hv)
    · cases h
end
def cm : Nat → Cm
  | 0 => ⟨fun _ _ => none, fun _ _ => none⟩
  | n + 1 => ⟨stepE (cm n), stepT (cm n)⟩
theorem cm_ok : ∀ n, CmOk (cm n)
  | 0 => ⟨fun _ _ _ _ _ h => (by cases h), fun _ _ _ _ _ h => (by cases h)⟩
  | n + 1 => ⟨fun _ _ ok _ _ h => stepE_ok (cm_ok n) ok h, fun _ _ ok _ _ h => stepT_ok (cm_ok n) ok h⟩
end DL

/-! text E12 -/
set_option Elab.async false
set_option linter.all false
set_option maxRecDepth 100000
set_option maxHeartbeats 1000000
namespace DL
open PySem PySem.Spec PyProof.Rows L2 PySem.SeqAt
open PySem.W (alike alikeAll dataLt dataLe rcLt_alike AllAlike Sortable EachIs)
section
variable {X : Cx} {cs : Cs}

/-! ### statements of a text -/
def isComp : Expr → Bool
  | .ListComp .. => true
  | .SetComp .. => true
  | .DictComp .. => true
  | _ => false
theorem swaps_no {e : Expr} {t : Option Expr} {l : Nat} {env : Env} (h : isComp e = false) : swapsWith e t l env = pure false := by
  cases e <;> first | rfl | cases h
/-- name = [..] -/
def swapB (cs : Cs) (y : Str) (py pos : Pos) (scope : Scope) : Bool := decide (cs.sc.names.lookup y = some .local) && (py.line == pos.line) && !(scope.names.any fun (n, k) => n == y && (k == .local || k == .cell))
theorem swapB_ok (ok : XOk X cs) {elt : Expr} {gs : List Comprehension} {scope : Scope} {pos py : Pos} {y : Str} {l : Nat} : swapsWith (.ListComp elt gs scope pos) (some (.Name y py)) l X.env = pure (swapB cs y py pos scope) := by
  have hb : X.env.blockKind = .function := by unfold Env.blockKind; rw [ok.sc, ok.kind]; rfl
  have ky : X.env.kindOf y = cs.sc.names.lookup y := by unfold Env.kindOf; rw [ok.sc]
  unfold swapsWith swapB
  simp only [hb, ky, Expr.pos]
  have e1 : (ScopeKind.function == ScopeKind.function) = true := rfl
  have e2 : (cs.sc.names.lookup y == some NameKind.local) = decide (cs.sc.names.lookup y = some .local) := by
    cases cs.sc.names.lookup y with
    | none => rfl
    | some k => cases k <;> rfl
  rw [e1, Bool.true_and, e2]
/-- a, b = x, y: stored from the right -/
def parOf (cs : Cs) (x y : Str) (px py : Pos) (vs : List Expr) : Bool := decide (cs.sc.names.lookup x = some .local) && decide (cs.sc.names.lookup y = some .local) && (py.line == px.line) && decide (x ≠ y) && vs.all notStar && !vs.all (foldedForSure 8) && !vs.all (constantsAlone 8)
theorem star_any {vs : List Expr} (h : vs.all notStar = true) : (vs.any fun | .Starred .. => true | _ => false) = false := by
  rw [List.any_eq_false]
  intro e he
  have := List.all_eq_true.mp h e he
  cases e <;> first | (simp; done) | cases this
theorem eraseDups2 {x y : Str} (h : x ≠ y) : [x, y].eraseDups.length = 2 := by
  have : (y == x) = false := beq_eq_false_iff_ne.mpr (Ne.symm h)
  simp [List.eraseDups_cons, this]
theorem swapped2 (ok : XOk X cs) {x y : Str} {px py pt pt2 : Pos} {kt k2 : Nat} {a b : Expr} (h : parOf cs x y px py [a, b] = true) : swappedStores [.Tuple [.Name x px, .Name y py] kt pt] (.Tuple [a, b] k2 pt2) X.env = pure (some [x, y]) := by
  unfold parOf at h
  simp only [Bool.and_eq_true, decide_eq_true_eq, Bool.not_eq_true'] at h
  obtain ⟨⟨⟨⟨⟨⟨h1, h2⟩, h3⟩, h4⟩, h5⟩, h6⟩, h7⟩ := h
  have hb : X.env.blockKind = .function := by unfold Env.blockKind; rw [ok.sc, ok.kind]; rfl
  have kx : X.env.kindOf x = some .local := by unfold Env.kindOf; rw [ok.sc]; exact h1
  have ky : X.env.kindOf y = some .local := by unfold Env.kindOf; rw [ok.sc]; exact h2
  have hs := star_any h5
  have hx : (px.line == px.line) = true := beq_self_eq_true _
  have e1 : ((some NameKind.local) == some NameKind.local) = true := rfl
  unfold swappedStores
  simp only [hb, hs, h6, h7, List.length_cons, List.length_nil, List.head?_cons, Option.map_some, Option.getD_some, Expr.pos, List.filterMap_cons, List.filterMap_nil, kx, ky, h3, hx, e1, Bool.and_self, if_true, eraseDups2 h4, Bool.and_true]
  exact (if_neg (by decide)).trans ((if_neg (fun z => Bool.false_ne_true (hs.symm.trans z))).trans ((if_neg (by decide)).trans ((if_neg (by decide)).trans (if_neg (by decide)))))
def cPar (c : Cm) (cs : Cs) (ts vs : List Expr) : Option SS := match ts, vs with
  | [.Name x px, .Name y py], [a, b] => if parOf cs x y px py [a, b] then (match ixOf cs.N x, ixOf cs.N y, c.E cs a, c.E cs b with
    | some i, some j, some s, some t => if i = j then none else some (c_par i j s t)
    | _, _, _, _ => none) else none
  | _, _ => none
theorem cPar_ok {c : Cm} (hc : CmOk c) (ok : XOk X cs) {ts vs : List Expr} {kt k2 : Nat} {pt pt2 pos : Pos} {s : SS} (h : cPar c cs ts vs = some s) : PS X (.Assign [.Tuple ts kt pt] (.Tuple vs k2 pt2) pos) (tS X.K s) := by
  unfold cPar at h
  split at h
  · rename_i x px y py a b
    split at h
    · rename_i hp
      have hp' := hp
      unfold parOf at hp'
      simp only [Bool.and_eq_true, decide_eq_true_eq, Bool.not_eq_true'] at hp'
      obtain ⟨⟨⟨⟨⟨⟨h1, h2⟩, h3⟩, h4⟩, h5⟩, h6⟩, h7⟩ := hp'
      split at h
      · rename_i i j s t e1 e2 e3 e4
        split at h
        · cases h
        · rename_i hij
          cases h
          rw [List.all_cons, List.all_cons] at h5
          obtain ⟨n1, n2⟩ := Bool.and_eq_true_iff.mp h5
          obtain ⟨n2, _⟩ := Bool.and_eq_true_iff.mp n2
          exact s_par ok.calm (by rw [ok.N]; exact ok.nd) (by rw [ok.N]; exact ixOf_ok e1) (by rw [ok.N]; exact ixOf_ok e2) hij (by rw [ok.sc]; exact h1) (by rw [ok.sc]; exact h2) (hc.E cs X ok _ _ e3) (hc.E cs X ok _ _ e4) (starE n1) (starE n2) (swapped2 ok hp) rfl
      · cases h
    · cases h
  · cases h
/-- an unpacking whose right side is made first -/
def unpOk : Expr → Expr → Bool
  | .Tuple _ _ _, .Tuple vs _ _ => vs.all (foldedForSure 8) && vs.all notStar
  | .Tuple _ _ _, v => !isComp v
  | _, _ => false
theorem swapped_none {ts vs : List Expr} {kt k2 : Nat} {pt pt2 : Pos} {env : Env} (h : vs.all (foldedForSure 8) = true) (hs : vs.all notStar = true) : swappedStores [.Tuple ts kt pt] (.Tuple vs k2 pt2) env = pure none := by
  have hs := star_any hs
  unfold swappedStores
  simp only [h, hs, if_true, if_false]
  repeat' split
  all_goals first | rfl | skip
theorem unp_swaps {ts : List Expr} {kt : Nat} {pt : Pos} {v : Expr} {env : Env} (h : unpOk (.Tuple ts kt pt) v = true) : swappedStores [.Tuple ts kt pt] v env = pure none := by
  cases v <;> first
    | rfl
    | (have h' := Bool.and_eq_true_iff.mp h; exact swapped_none h'.1 h'.2)
theorem unp_comp {ts : List Expr} {kt : Nat} {pt : Pos} {v : Expr} {l : Nat} {env : Env} (h : unpOk (.Tuple ts kt pt) v = true) : swapsWithSole [.Tuple ts kt pt] v l env = pure false := by
  cases v <;> first | rfl | cases h
def allSlots (cs : Cs) : List Nat := List.range cs.N.length
def cAssign (c : Cm) (cs : Cs) (t v : Expr) (pos : Pos) : Option SS := match t with
  | .Name y py => match storeOf cs y with
    | some i => match v with
      | .ListComp elt [⟨tg, iter, ifs, 0⟩] scope vpos => match cLc c cs elt tg iter ifs scope with
        | some s => some (c_set i s)
        | none => none
      | v => if isComp v then none else (c.E cs v).map (c_set i)
    | none => none
  | .Tuple ts _ _ => match v with
    | .Tuple vs k2 p2 => match cPar c cs ts vs with
      | some s => some s
      | none => if unpOk t (.Tuple vs k2 p2) then (match cTg cs (allSlots cs) 5 t, c.E cs (.Tuple vs k2 p2) with
        | some g, some s => some (c_unp g s)
        | _, _ => none) else none
    | v => if unpOk t v then (match cTg cs (allSlots cs) 5 t, c.E cs v with
      | some g, some s => some (c_unp g s)
      | _, _ => none) else none
  | .Subscript (.Name x _) ix _ => if plainN x then (match slotOf cs x, c.E cs ix, c.E cs v with
    | some i, some s, some u => if isComp v || !notSlice ix then none else some (c_seti i s u)
    | _, _, _ => none) else none
  | _ => none
theorem sub_assign {x : Str} {p tpos : Pos} {ix : Expr} (h : notSlice ix = true) : ∀ u, assign (.Subscript (.Name x p) ix tpos) X.env u = (do
      let ov ← holding [u] (eval (.Name x p) X.env)
      let iv ← holding [u, ov] (eval ix X.env)
      standAt tpos
      holding [u, ov, iv] (setItem ov iv u)
      release [u, ov, iv] []) := by
  intro u
  cases ix <;> first | rfl | cases h
theorem cAssign_ok {c : Cm} (hc : CmOk c) (ok : XOk X cs) {t v : Expr} {pos : Pos} {s : SS} (h : cAssign c cs t v pos = some s) : PS X (.Assign [t] v pos) (tS X.K s) := by
  unfold cAssign at h
  split at h
  · rename_i y py
    split at h
    · rename_i i e0
      obtain ⟨h1, h2, h3⟩ := storeOf_ok ok e0
      split at h
      · rename_i elt tg iter ifs scope vpos
        split at h
        · rename_i s' e1
          cases h
          cases hsw : swapB cs y py vpos scope with
          | true =>
            obtain ⟨w, g, t, se, rfl, k1, k2, k3, k4, k5, k6⟩ := cLc_parts hc ok e1
            have hy : X.env.scope.names.lookup y = some .local := by
              rw [ok.sc]
              unfold swapB at hsw
              simp only [Bool.and_eq_true, decide_eq_true_eq] at hsw
              exact hsw.1.1
            exact s_setLc ok.calm (by rw [ok.N]; exact ok.nd) h1 hy (by rw [swapB_ok ok, hsw]) k1 k2 k3 k4 k5 k6
          | false => exact s_set (by rw [ok.N]; exact ok.nd) h1 h2 (cLc_ok hc ok e1) (by rw [swapB_ok ok, hsw]) h3
        · cases h
      · split at h
        · cases h
        · rename_i hn
          obtain ⟨a, e1, rfl⟩ := map_some h
          exact s_set (by rw [ok.N]; exact ok.nd) h1 h2 (hc.E cs X ok _ _ e1) (swaps_no (by simpa using hn)) h3
    · cases h
  · rename_i ts kt pt
    split at h
    · rename_i vs k2 p2
      split at h
      · rename_i s' e1
        cases h
        exact cPar_ok hc ok e1
      · split at h
        · rename_i hu
          split at h
          · rename_i g s' e1 e2
            cases h
            exact s_unp (hc.E cs X ok _ _ e2) (cTg_ok ok 5 e1) (unp_comp hu) (unp_swaps hu) rfl
          · cases h
        · cases h
    · split at h
      · rename_i hu
        split at h
        · rename_i g s' e1 e2
          cases h
          exact s_unp (hc.E cs X ok _ _ e2) (cTg_ok ok 5 e1) (unp_comp hu) (unp_swaps hu) rfl
        · cases h
      · cases h
  · rename_i x p ix tpos
    split at h
    · rename_i hp
      split at h
      · rename_i i s' u e1 e2 e3
        split at h
        · cases h
        · rename_i hn
          cases h
          simp only [Bool.or_eq_true, not_or, Bool.not_eq_true, Bool.not_eq_false'] at hn
          exact s_seti (var_of ok e1 hp) (hc.E cs X ok _ _ e2) (hc.E cs X ok _ _ e3) (sub_assign hn.2) (show swapsWithSole [.Subscript (.Name x p) ix tpos] v pos.line X.env = pure false by unfold swapsWithSole; exact swaps_no hn.1) rfl rfl
      · cases h
    · cases h
  · cases h
/-- an expression alone: a list of one's own grows, or a call -/
def cExprS (c : Cm) (cs : Cs) (e : Expr) : Option SS := match e with
  | .Constant (.str _) _ _ => some c_nil
  | .Call (.Attribute (.Name x p) m apos) [a] [] cpos =>
    if (m = "append" ∨ m = "extend") then (if (apos.endLine == cpos.line) && notStar a && plainN x then (match slotOf cs x, c.E cs a with
      | some i, some s => if m = "append" then some (c_app i s) else some (c_ext i s)
      | _, _ => none) else none)
    else (c.E cs (.Call (.Attribute (.Name x p) m apos) [a] [] cpos)).map c_do
  | e => if isComp e then none else (c.E cs e).map c_do
theorem cExprS_ok {c : Cm} (hc : CmOk c) (ok : XOk X cs) {e : Expr} {pos : Pos} {s : SS} (h : cExprS c cs e = some s) : PS X (.Expr e pos) (tS X.K s) := by
  unfold cExprS at h
  split at h
  · cases h
    exact PS.imp ps_doc fun D σ H ⟨ρ, W, rf, k, E, h, q⟩ => q.nx _ _ _ _ h (Go.refl E)
  · rename_i x p m apos a cpos
    split at h
    · rename_i hm
      split at h
      · rename_i hh
        simp only [Bool.and_eq_true] at hh
        obtain ⟨⟨hl, n⟩, hp⟩ := hh
        split at h
        · rename_i i s' e1 e2
          have hf : ((backTo cpos (starEach [a] X.env)).all (fun x => !x.1) && (backToKw cpos (keywordEach [] X.env)).all (fun x => x.1.isSome) && decide ([a].length + ([] : List Keyword).length + (if ([] : List Keyword).isEmpty then 0 else 1) < 30)) = true := by
            rw [starE n]; rfl
          split at h
          · rename_i em
            subst em
            cases h
            exact s_app (var_of ok e1 hp) (hc.E cs X ok _ _ e2) rfl hf hl (starE n) rfl rfl
          · rename_i em
            have em : m = "extend" := hm.elim (fun z => absurd z em) _root_.id
            subst em
            cases h
            exact s_ext (var_of ok e1 hp) (hc.E cs X ok _ _ e2) rfl hf hl (starE n) rfl rfl
        · cases h
      · cases h
    · obtain ⟨b, e1, rfl⟩ := map_some h
      exact s_do (hc.E cs X ok _ _ e1) rfl
  · split at h
    · cases h
    · rename_i hn
      obtain ⟨a, e1, rfl⟩ := map_some h
      exact s_do (hc.E cs X ok _ _ e1) (swaps_no (by simpa using hn))
mutual
def cSt (c : Cm) (cs : Cs) : Nat → Stmt → Option SS
  | 0, _ => none
  | n + 1, st => match st with
    | .Expr e _ => cExprS c cs e
    | .Return none _ => some c_retN
    | .Return (some e) _ => (c.E cs e).map c_ret
    | .Pass _ => some c_nil
    | .Break _ => some c_brk
    | .Continue _ => some c_cont
    | .Raise .. => some c_never
    | .If t a b _ => (match c.T cs t, cSts c cs n a, cSts c cs n b with
      | some t, some s, some u => some (c_ifS t s u)
      | _, _, _ => none)
    | .While t a [] _ => (match c.T cs t, cSts c cs n a with
      | some t, some s => some (c_while t s)
      | _, _ => none)
    | .For tg iter body [] _ => if notSet iter then (match cWalk c cs tg iter, cTg cs (allSlots cs) 5 tg, cSts c cs n body with
      | some w, some g, some s => some (c_for w g s)
      | _, _, _ => none) else none
    | .Assign [t] v pos => cAssign c cs t v pos
    | .AugAssign (.Name x _) op e _ => (match storeOf cs x, iopF op, c.E cs e with
      | some i, some f, some s => some (c_aug i f s)
      | _, _, _ => none)
    | _ => none
def cSts (c : Cm) (cs : Cs) : Nat → List Stmt → Option SS
  | 0, _ => none
  | n + 1, sts => match sts with
    | [] => some c_nil
    | [st] => cSt c cs n st
    | st :: st' :: rest => (match cSt c cs n st, cSts c cs n (st' :: rest) with
      | some s, some t => some (c_seq s t)
      | _, _ => none)
end
mutual
theorem cSt_ok {c : Cm} (hc : CmOk c) (ok : XOk X cs) : ∀ (n : Nat) {st : Stmt} {s : SS}, cSt c cs n st = some s → PS X st (tS X.K s)
  | 0, _, _, h => by simp [cSt] at h
  | n + 1, st, s, h => by
    have hp : PassesOwn (model X.prog X.w) X.A X.env X.xe := by rw [ok.xe]; exact PassesOwn.never
    simp only [cSt] at h
    split at h
    · exact cExprS_ok hc ok h
    · cases h; exact s_retN
    · obtain ⟨a, e1, rfl⟩ := map_some h; exact s_ret (hc.E cs X ok _ _ e1)
    · cases h; exact s_pass
    · cases h; exact s_brk
    · cases h; exact s_cont
    · cases h; exact s_never
    · split at h
      · rename_i t s u e1 e2 e3
        cases h
        exact s_if (hc.T cs X ok _ _ e1) (cSts_ok hc ok n e2) (cSts_ok hc ok n e3)
      · cases h
    · split at h
      · rename_i t s e1 e2
        cases h
        exact s_while hp (hc.T cs X ok _ _ e1) (cSts_ok hc ok n e2)
      · cases h
    · split at h
      · rename_i hn
        split at h
        · rename_i w g s e1 e2 e3
          cases h
          exact s_for hp ok.calm (cWalk_ok hc ok e1) (cTg_ok ok 5 e2) (cSts_ok hc ok n e3) (notFolded hn)
        · cases h
      · cases h
    · exact cAssign_ok hc ok h
    · split at h
      · rename_i i f s e1 e2 e3
        cases h
        obtain ⟨h1, h2, h3⟩ := storeOf_ok ok e1
        exact s_aug (by rw [ok.N]; exact ok.nd) h1 h2 h3 (hc.E cs X ok _ _ e3) (iopF_ok e2)
      · cases h
    · cases h
theorem cSts_ok {c : Cm} (hc : CmOk c) (ok : XOk X cs) : ∀ (n : Nat) {sts : List Stmt} {s : SS}, cSts c cs n sts = some s → PSs X sts (tS X.K s)
  | 0, _, _, h => by simp [cSts] at h
  | n + 1, sts, s, h => by
    simp only [cSts] at h
    split at h
    · cases h; exact s_nil
    · exact s_one (cSt_ok hc ok n h)
    · split at h
      · rename_i s t e1 e2
        cases h
        exact s_cons (cSt_ok hc ok n e1) (cSts_ok hc ok n e2)
      · cases h
end
end

/-! ### a def keeps what its text says -/
theorem start_ok {K : PySem.W.Frag} {H : Hp} {W : AS} (rf : List Addr) (hn : rf.Nodup) (dm : ∀ a, W a → H a ≠ none) : ∀ {vs : List V} {args : List Arg} {ra : List Addr} (pre : List Addr), rf = pre ++ ra → ArgsR K H W vs args ra →
    (startE args pre.length).length = vs.length ∧ (∀ (i : Nat) d, (startE args pre.length)[i]? = some (.val d) → ∃ v, vs[i]? = some v ∧ Rp K H W v d) ∧
    (∀ (i : Nat) t o, (startE args pre.length)[i]? = some (.own t o) → ∃ a j, vs[i]? = some (.ref a) ∧ t = j + 1 ∧ pre.length ≤ j ∧ rf[j]? = some a ∧ W a ∧ ObjR K H W a o) ∧
    (∀ (i j : Nat) t u o q, (startE args pre.length)[i]? = some (.own t o) → (startE args pre.length)[j]? = some (.own u q) → t = u → i = j)
  | _, _, _, pre, e, .nil => ⟨rfl, fun i d h => by simp [startE] at h, fun i t o h => by simp [startE] at h, fun i j t u o q h => by simp [startE] at h⟩
  | _, _, _, pre, e, .val hd r => by
    obtain ⟨h1, h2, h3, h4⟩ := start_ok rf hn dm pre e r
    refine ⟨by simp [startE, h1], fun i d h => ?_, fun i t o h => ?_, fun i j t u o q h h' ht => ?_⟩
    · cases i with
      | zero => simp [startE] at h; subst h; exact ⟨_, rfl, hd⟩
      | succ i => obtain ⟨v, a, b⟩ := h2 i d (by simpa [startE] using h); exact ⟨v, by simpa using a, b⟩
    · cases i with
      | zero => simp [startE] at h
      | succ i => obtain ⟨a, j, k, l⟩ := h3 i t o (by simpa [startE] using h); exact ⟨a, j, by simpa using k, l⟩
    · cases i with
      | zero => simp [startE] at h
      | succ i =>
        cases j with
        | zero => simp [startE] at h'
        | succ j => rw [h4 i j t u o q (by simpa [startE] using h) (by simpa [startE] using h') ht]
  | _, _, a :: ra', pre, e, .ref w ob r => by
    have e' : rf = (pre ++ [a]) ++ ra' := by rw [e]; simp
    have el : (pre ++ [a]).length = pre.length + 1 := by simp
    obtain ⟨h1, h2, h3, h4⟩ := start_ok rf hn dm (pre ++ [a]) e' r
    rw [el] at h1 h2 h3 h4
    refine ⟨by simp [startE, h1], fun i d h => ?_, fun i t o h => ?_, fun i j t u o q h h' ht => ?_⟩
    · cases i with
      | zero => simp [startE] at h
      | succ i => obtain ⟨v, a, b⟩ := h2 i d (by simpa [startE] using h); exact ⟨v, by simpa using a, b⟩
    · cases i with
      | zero =>
        simp [startE] at h
        obtain ⟨rfl, rfl⟩ := h
        exact ⟨a, pre.length, rfl, rfl, Nat.le_refl _, by rw [e]; simp, w, ob⟩
      | succ i => obtain ⟨a, j, k, l, m, n⟩ := h3 i t o (by simpa [startE] using h); exact ⟨a, j, by simpa using k, l, by omega, n⟩
    · have ge : ∀ {i : Nat} {t o}, (startE _ (pre.length + 1))[i]? = some (Slot.own t o) → pre.length + 1 < t := fun {i t o} h => by
        obtain ⟨_, j, _, e, l, _⟩ := h3 i t o h
        omega
      cases i with
      | zero =>
        cases j with
        | zero => rfl
        | succ j =>
          simp [startE] at h
          have := ge (i := j) (by simpa [startE] using h')
          omega
      | succ i =>
        cases j with
        | zero =>
          simp [startE] at h'
          have := ge (i := i) (by simpa [startE] using h)
          omega
        | succ j => rw [h4 i j t u o q (by simpa [startE] using h) (by simpa [startE] using h') ht]
theorem outs_ok {K : PySem.W.Frag} {rf : List Addr} {σ : Sg} {H : Hp} {W : AS} {ρ : En} (E : EnvR K rf σ H W ρ) : ∀ {ps : List Nat} {j : Nat} {k : List OD → Prop}, ps.length + j = rf.length → outsK ρ ps j k → ∃ outs, k outs ∧ OutsR K H W (rf.drop j) outs
  | [], j, k, hl, h => ⟨[], h, by rw [List.drop_eq_nil_of_le (by simp at hl; omega)]; exact .nil⟩
  | p :: ps, j, k, hl, h => by
    simp only [outsK] at h
    split at h
    · rename_i t o e
      obtain ⟨rfl, h⟩ := h
      obtain ⟨a, _, _, ob, t1, _⟩ := E.own p _ o e
      have ha := t1 j rfl
      obtain ⟨outs, hk, hr⟩ := outs_ok E (by simp at hl; omega) h
      have hj : j < rf.length := by simp at hl; omega
      refine ⟨o :: outs, hk, ?_⟩
      rw [List.drop_eq_getElem_cons hj]
      have : rf[j] = a := by
        rw [List.getElem?_eq_getElem hj] at ha
        exact Option.some.inj ha
      rw [this]
      exact .cons ob hr
    · exact h.elim
theorem refPos_len {K : PySem.W.Frag} {H : Hp} {W : AS} : ∀ {vs : List V} {args : List Arg} {ra : List Addr} (p : Nat), ArgsR K H W vs args ra → (refPos args p).length = ra.length
  | _, _, _, _, .nil => rfl
  | _, _, _, p, .val _ r => refPos_len (p + 1) r
  | _, _, _, p, .ref _ _ r => by simp only [refPos, List.length_cons, refPos_len (p + 1) r]
theorem argsR_len {K : PySem.W.Frag} {H : Hp} {W : AS} {vs : List V} {args : List Arg} {ra : List Addr} (r : ArgsR K H W vs args ra) : vs.length = args.length := by
  induction r with
  | nil => rfl
  | val _ _ ih => simp [ih]
  | ref _ _ _ ih => simp [ih]
theorem argsR_mem {K : PySem.W.Frag} {H : Hp} {W : AS} {vs : List V} {args : List Arg} {ra : List Addr} (r : ArgsR K H W vs args ra) : ∀ a ∈ ra, W a := by
  induction r with
  | nil => intro a h; simp at h
  | val _ _ ih => exact ih
  | ref w _ _ ih =>
    intro a h
    rcases List.mem_cons.mp h with rfl | h
    · exact w
    · exact ih a h
theorem start_env {K : PySem.W.Frag} {H : Hp} {W : AS} {N ps : List Str} {vs : List V} {args : List Arg} {ra : List Addr} (dm : ∀ a, W a → H a ≠ none) (ar : ArgsR K H W vs args ra) (nd : ra.Nodup) (hvl : vs.length = ps.length) (hpl : ps.length ≤ N.length) :
    EnvR K ra (start N vs) H W (startE args 0 ++ List.replicate (N.length - ps.length) .un) := by
  obtain ⟨s1, s2, s3, s4⟩ := start_ok ra nd dm [] rfl ar
  simp only [List.length_nil] at s1 s2 s3 s4
  have raD : ∀ a ∈ ra, W a := argsR_mem ar
  have hst : ∀ i v, vs[i]? = some v → (start N vs)[i]? = some (some v) := fun i v e => by
    unfold L2.start
    have hi := (List.getElem?_eq_some_iff.mp e).1
    rw [List.getElem?_append_left (by simpa using hi), List.getElem?_map, e]
    rfl
  have hsl : ∀ {i : Nat} {sl : Slot}, (startE args 0 ++ List.replicate (N.length - ps.length) Slot.un)[i]? = some sl → sl ≠ .un → (startE args 0)[i]? = some sl := fun {i sl} h n => by
    by_cases hi : i < (startE args 0).length
    · rw [List.getElem?_append_left hi] at h; exact h
    · rw [List.getElem?_append_right (by omega), List.getElem?_replicate] at h
      split at h
      · cases h; exact absurd rfl n
      · cases h
  refine ⟨?_, dm, fun a h => dm a (raD a h), fun i d h => ?_, fun i t o h => ?_, fun i j t u o q a h1 h2 h3 h4 => ?_⟩
  · unfold L2.start
    rw [List.length_append, List.length_append, List.length_map, List.length_replicate, List.length_replicate, s1, hvl]
  · obtain ⟨v, h1, h2⟩ := s2 i d (hsl h (fun z => nomatch z))
    exact ⟨v, hst i v h1, h2⟩
  · obtain ⟨a, j, h1, h2, _, h3, h4, h5⟩ := s3 i t o (hsl h (fun z => nomatch z))
    exact ⟨a, hst i _ h1, h4, h5, fun j' e => by rw [show j' = j by omega]; exact h3, fun e => by omega⟩
  · obtain ⟨a1, j1, k1, k2, _, k3, _⟩ := s3 i t o (hsl h1 (fun z => nomatch z))
    obtain ⟨a2, j2, l1, l2, _, l3, _⟩ := s3 j u q (hsl h2 (fun z => nomatch z))
    rw [hst i _ k1] at h3; cases h3
    rw [hst j _ l1] at h4; cases h4
    have : j1 = j2 := by
      obtain ⟨b1, c1⟩ := List.getElem?_eq_some_iff.mp k3
      obtain ⟨b2, c2⟩ := List.getElem?_eq_some_iff.mp l3
      exact (List.getElem_inj nd).mp (c1.trans c2.symm)
    exact s4 i j t u o q (hsl h1 (fun z => nomatch z)) (hsl h2 (fun z => nomatch z)) (by omega)

/-- THE RULE for a def -/
theorem fn_ok {P : Program} {w : World} {K : PySem.W.Frag} {mg : Str → Option Value} {base : Heap} {x qual : Str} {params : Arguments} {body : List Stmt} {scope : Scope} {f : Addr} {fd : FuncData} {N ps : List Str} {k n : Nat} {code : SS} {kons : List (Str × Dat)} {blts : List Str} {fns : List (Str × List Bool × Spec)} {keys news : List (Str × Spec)}
    (F : FunD K x qual params body scope [] [] f fd) (S : FnScope N ps scope) (hpl : ps.length ≤ N.length)
    (hc : cSts (cm 40) ⟨N, scope, fun _ => true, kons, blts, fns, keys, news⟩ 40 body = some code)
    (bl : ∀ x, x ∈ blts → mg x = none) (kn : ∀ x d, (x, d) ∈ kons → ∃ v u, mg x = some u ∧ RelV v u ∧ ∀ H W, Rp K H W v d)
    (fs : ∀ x fl G, (x, fl, G) ∈ fns → ∃ f fd ps, FnOk P w K mg base CX0 k f fd ps (spOf K G) ∧ mg x = some (.ref f) ∧ PySem.W.keepIn K (.ref f) = true ∧ Binds K fd ps [])
    (ks : ∀ x G, (x, G) ∈ keys → ∃ f fd ps k', k' + 1 ≤ k ∧ FnOk P w K mg base CX0 k' f fd ps (spOf K G) ∧ mg x = some (.ref f) ∧ Binds K fd ps [])
    (ns : ∀ x G, (x, G) ∈ news → ∃ f fd ps, FnOk P w K mg base CX0 k f fd ps (spNew K G) ∧ mg x = some (.ref f) ∧ PySem.W.keepIn K (.ref f) = true ∧ Binds K fd ps []) :
    FnOk P w K mg base CX0 (k + 1) f fd ps (spOf K (fnW ps.length N.length code)) := by
  refine F.ok S (fun vs H Q E h => ?_) (fun cdv A outer s H vs Q E hr h => ⟨tS K code, PSs.nox ?_, ?_⟩)
  · obtain ⟨W, args, ra, k, dm, ar, nd, ⟨hl, hF⟩, q⟩ := h
    rw [argsR_len ar, hl]
  · have ok : XOk (cxOf CX0 P w K mg base N qual scope f cdv A outer s H E).nox ⟨N, scope, fun _ => true, kons, blts, fns, keys, news⟩ := by
      refine ⟨rfl, rfl, rfl, S.nd, S.kind, rfl, fun _ _ => rfl, bl, kn, fun x fl G hm => ?_, fun x G hm => ?_, fun x G hm => ?_, ?_⟩
      · obtain ⟨f', fd', ps', h1, h2, h3, h4⟩ := fs x fl G hm
        exact ⟨f', fd', ps', k, h1, hr, h2, h3, h4⟩
      · obtain ⟨f', fd', ps', k', h0, h1, h2, h3⟩ := ks x G hm
        exact ⟨f', fd', ps', k', h1, hr.mono h0, h2, h3⟩
      · obtain ⟨f', fd', ps', h1, h2, h3, h4⟩ := ns x G hm
        exact ⟨f', fd', ps', k, h1, hr, h2, h3, h4⟩
      · have := hr.un
        show (A.deeper _).units + 65 < cLine
        omega
    exact cSts_ok (cm_ok 40) ok 40 hc
  · obtain ⟨W, args, ra, kk, dm, ar, nd, ⟨hl, hF⟩, q⟩ := h
    obtain ⟨s1, s2, s3, s4⟩ := start_ok ra nd dm [] rfl ar
    have hvl : vs.length = ps.length := (argsR_len ar).trans hl
    simp only [List.length_nil] at s1 s2 s3 s4
    have raD : ∀ a ∈ ra, W a := argsR_mem ar
    have E0 := start_env (N := N) (ps := ps) dm ar nd hvl hpl
    have noL : ∀ a, ¬ OwnL (start N vs) (startE args 0 ++ List.replicate (N.length - ps.length) .un) a := fun a ⟨i, o, h1, h2⟩ => by
      obtain ⟨b, _, _, _, t1, t2⟩ := E0.own i 0 o h1
      have hi : i < (startE args 0).length := by
        by_cases hi : i < (startE args 0).length
        · exact hi
        · rw [List.getElem?_append_right (by omega), List.getElem?_replicate] at h1
          split at h1 <;> cases h1
      rw [List.getElem?_append_left hi] at h1
      obtain ⟨_, j, _, e, _⟩ := s3 i 0 o h1
      omega
    have ownR : ∀ a, Own (start N vs) (startE args 0 ++ List.replicate (N.length - ps.length) .un) a → a ∈ ra := fun a ⟨i, t, o, h1, h2⟩ => by
      have hi : i < (startE args 0).length := by
        by_cases hi : i < (startE args 0).length
        · exact hi
        · rw [List.getElem?_append_right (by omega), List.getElem?_replicate] at h1
          split at h1 <;> cases h1
      obtain ⟨b, e, _⟩ := E0.own i t o h1
      rw [List.getElem?_append_left hi] at h1
      obtain ⟨c, j, e1, _, _, e2, _⟩ := s3 i t o h1
      have : (start N vs)[i]? = some (some (V.ref c)) := by
        unfold L2.start
        have hi := (List.getElem?_eq_some_iff.mp e1).1
        rw [List.getElem?_append_left (by simpa using hi), List.getElem?_map, e1]
        rfl
      rw [h2] at this; cases this
      exact List.mem_of_getElem? e2
    have fin : ∀ d ρ' σ' v H' W', outsK ρ' (refPos args 0) 0 (kk d) → Go K ra (start N vs) H W (startE args 0 ++ List.replicate (N.length - ps.length) .un) σ' H' W' ρ' → Rp K H' W' v d → Q v H' := fun d ρ' σ' v H' W' ho G rp => by
      obtain ⟨outs, hk, hr⟩ := outs_ok G.env (by rw [refPos_len 0 ar]; rfl) ho
      exact q d outs v H' W' hk (fun a u n e => G.kp.keep a u (fun z => n (ownR a z)) e) G.dom (fun a h => (G.lose a h).elim _root_.id fun z => absurd z (noL a)) G.grow G.env.dom hr rp
    refine ⟨_, W, ra, _, E0, hF, ⟨fun ρ' σ' H' W' h G => fin _ _ _ _ _ _ h G .non, fun d ρ' σ' v H' W' h G r => fin _ _ _ _ _ _ h G r, fun ρ' σ' H' W' h G => h.elim, fun ρ' σ' H' W' h G => h.elim⟩⟩
/-- the rule for a def that gives a new list: return e -/
theorem fn_okNew {P : Program} {w : World} {K : PySem.W.Frag} {mg : Str → Option Value} {base : Heap} {x qual : Str} {params : Arguments} {e : Expr} {pos : Pos} {scope : Scope} {f : Addr} {fd : FuncData} {N ps : List Str} {k : Nat} {code : SE} {kons : List (Str × Dat)} {blts : List Str} {fns : List (Str × List Bool × Spec)}
    (F : FunD K x qual params [.Return (some e) pos] scope [] [] f fd) (S : FnScope N ps scope) (hpl : ps.length ≤ N.length)
    (hc : (cm 40).E ⟨N, scope, fun _ => true, kons, blts, fns, [], []⟩ e = some code)
    (bl : ∀ x, x ∈ blts → mg x = none) (kn : ∀ x d, (x, d) ∈ kons → ∃ v u, mg x = some u ∧ RelV v u ∧ ∀ H W, Rp K H W v d)
    (fs : ∀ x fl G, (x, fl, G) ∈ fns → ∃ f fd ps, FnOk P w K mg base CX0 k f fd ps (spOf K G) ∧ mg x = some (.ref f) ∧ PySem.W.keepIn K (.ref f) = true ∧ Binds K fd ps []) :
    FnOk P w K mg base CX0 (k + 1) f fd ps (spNew K (fnN ps.length N.length code)) := by
  refine F.ok S (fun vs H Q E h => ?_) (fun cdv A outer s H vs Q E hr h => ⟨fun D σ H => tE K code σ H D.rt, PSs.nox ?_, ?_⟩)
  · obtain ⟨W, args, k, dm, ar, ⟨hl, hF⟩, q⟩ := h
    rw [argsR_len ar, hl]
  · have ok : XOk (cxOf CX0 P w K mg base N qual scope f cdv A outer s H E).nox ⟨N, scope, fun _ => true, kons, blts, fns, [], []⟩ := by
      refine ⟨rfl, rfl, rfl, S.nd, S.kind, rfl, fun _ _ => rfl, bl, kn, fun x fl G hm => ?_, fun x G hm => by simp at hm, fun x G hm => by simp at hm, ?_⟩
      · obtain ⟨f', fd', ps', h1, h2, h3, h4⟩ := fs x fl G hm
        exact ⟨f', fd', ps', k, h1, hr, h2, h3, h4⟩
      · have := hr.un
        show (A.deeper _).units + 65 < cLine
        omega
    exact pss_one (ps_ret ((cm_ok 40).E _ _ ok _ _ hc))
  · obtain ⟨W, args, kk, dm, ar, ⟨hl, hF⟩, q⟩ := h
    have hvl : vs.length = ps.length := (argsR_len ar).trans hl
    have E0 := start_env (N := N) (ps := ps) dm ar List.nodup_nil hvl hpl
    refine ⟨_, W, [], _, E0, hF, fun x ρ' v H' W' hx G r => ?_⟩
    have noO : ∀ a, ¬ Own (start N vs) (startE args 0 ++ List.replicate (N.length - ps.length) .un) a := fun a ⟨i, t, o, h1, h2⟩ => by
      have hi : i < (startE args 0).length := by
        by_cases hi : i < (startE args 0).length
        · exact hi
        · rw [List.getElem?_append_right (by omega), List.getElem?_replicate] at h1
          split at h1 <;> cases h1
      rw [List.getElem?_append_left hi] at h1
      obtain ⟨_, _, s3, _⟩ := start_ok [] List.nodup_nil dm [] rfl ar
      obtain ⟨_, j, _, _, _, e2, _⟩ := s3 i t o h1
      simp at e2
    cases x with
    | dat d => exact hx.elim
    | loc i => exact hx.elim
    | new o =>
      cases o with
      | dct kvs => exact hx.elim
      | lst ds =>
        refine q _ _ _ hx ⟨fun a u e => G.kp.keep a u (noO a) e, ?_⟩
        obtain ⟨a, rfl, h1, ⟨xs, h2, h3⟩, _, _, h4⟩ := r
        refine ⟨a, rfl, h4, xs, h2, h3.mono (O := fun _ => False) (Kp.refl _ _) (fun _ z => z.elim) fun b hb => ?_⟩
        rcases hb with hb | rfl
        · exact .inl ((G.lose b hb).elim _root_.id fun ⟨i, o, z⟩ => absurd ⟨i, 0, o, z⟩ (noO b))
        · exact .inl h1
end DL

/-! text C22 -/
set_option Elab.async false
set_option linter.all false
set_option maxRecDepth 100000
set_option maxHeartbeats 1000000
namespace K22
open PySem PySem.Spec PyProof.Rows L2 PySem.SeqAt DL
def top (i : Nat) : Stmt := PySem.Challenge.pw_doorrules_k22_whole_algebra_of_prefixes.main.body.getD i (.Pass ⟨0, 0, 0, 0⟩)
def retE : List Stmt → PySem.Expr
  | [.Return (some e) _] => e
  | _ => .Constant .none 0 ⟨0, 0, 0, 0⟩
def itr (F : DL.Spec → DL.Spec) : Nat → DL.Spec
  | 0 => fun _ _ => False
  | n + 1 => F (itr F n)
def recW (F : DL.Spec → DL.Spec) : DL.Spec := itr F 60
-- written by gen.py
def N_is_whole : List Str := ["value"]
def P_is_whole : List Str := ["value"]
abbrev sc_is_whole : Scope := defScope (top 4)
def fns_is_whole : List (Str × List Bool × DL.Spec) := []
def keys_is_whole : List (Str × DL.Spec) := []
def news_is_whole : List (Str × DL.Spec) := []
def kons_is_whole : List (Str × Dat) := []
def blts_is_whole : List Str := ["isinstance", "int", "bool"]
abbrev cs_is_whole : Cs := ⟨N_is_whole, sc_is_whole, fun _ => true, kons_is_whole, blts_is_whole, fns_is_whole, keys_is_whole, news_is_whole⟩
def c_is_whole : @DL.SS :=
  (DL.c_ret (DL.c_andV (DL.c_isi "int" (DL.c_var 0)) (DL.c_notV (DL.c_isi "bool" (DL.c_var 0)))))
theorem c_is_whole_eq : cSts (cm 40) cs_is_whole 40 (defBody (top 4)) = some c_is_whole := by kernel_rfl
def F_is_whole : DL.Spec := fnW 1 1 c_is_whole
def N_twos : List Str := ["bits"]
def P_twos : List Str := ["bits"]
abbrev sc_twos : Scope := defScope (top 5)
def fns_twos : List (Str × List Bool × DL.Spec) := []
def keys_twos : List (Str × DL.Spec) := []
def news_twos : List (Str × DL.Spec) := []
def kons_twos : List (Str × Dat) := []
def blts_twos : List Str := []
abbrev cs_twos : Cs := ⟨N_twos, sc_twos, fun _ => true, kons_twos, blts_twos, fns_twos, keys_twos, news_twos⟩
def c_twos : @DL.SS :=
  (DL.c_ret (DL.c_bin @DL.bShl (DL.c_lit (PySem.PyData.int (@OfNat.ofNat @Int (nat_lit 1) (@instOfNat (nat_lit 1))))) (DL.c_var 0)))
theorem c_twos_eq : cSts (cm 40) cs_twos 40 (defBody (top 5)) = some c_twos := by kernel_rfl
def F_twos : DL.Spec := fnW 1 1 c_twos
def N_size_under : List Str := ["bits", "told"]
def P_size_under : List Str := ["bits", "told"]
abbrev sc_size_under : Scope := defScope (top 8)
def fns_size_under : List (Str × List Bool × DL.Spec) := [("twos", [], F_twos)]
def keys_size_under : List (Str × DL.Spec) := []
def news_size_under : List (Str × DL.Spec) := []
def kons_size_under : List (Str × Dat) := []
def blts_size_under : List Str := []
abbrev cs_size_under : Cs := ⟨N_size_under, sc_size_under, fun _ => true, kons_size_under, blts_size_under, fns_size_under, keys_size_under, news_size_under⟩
def c_size_under : @DL.SS :=
  (DL.c_ret (DL.c_call @K22.F_twos (DL.a_cons (DL.c_bin @DL.bSub (DL.c_var 0) (DL.c_var 1)) @DL.a_nil)))
theorem c_size_under_eq : cSts (cm 40) cs_size_under 40 (defBody (top 8)) = some c_size_under := by kernel_rfl
def F_size_under : DL.Spec := fnW 2 2 c_size_under
def N_look_at_bits : List Str := ["bits"]
def P_look_at_bits : List Str := ["bits"]
abbrev sc_look_at_bits : Scope := defScope (top 9)
def fns_look_at_bits : List (Str × List Bool × DL.Spec) := [("is_whole", [], F_is_whole)]
def keys_look_at_bits : List (Str × DL.Spec) := []
def news_look_at_bits : List (Str × DL.Spec) := []
def kons_look_at_bits : List (Str × Dat) := [("MOST_BITS", .int 20)]
def blts_look_at_bits : List Str := []
abbrev cs_look_at_bits : Cs := ⟨N_look_at_bits, sc_look_at_bits, fun _ => true, kons_look_at_bits, blts_look_at_bits, fns_look_at_bits, keys_look_at_bits, news_look_at_bits⟩
def c_look_at_bits : @DL.SS :=
  (DL.c_ifS (DL.c_or (DL.c_not (DL.c_val (DL.c_call @K22.F_is_whole (DL.a_cons (DL.c_var 0) @DL.a_nil)))) (DL.c_not (DL.c_val (DL.c_chain (DL.c_lit (PySem.PyData.int (@OfNat.ofNat @Int (nat_lit 1) (@instOfNat (nat_lit 1))))) (DL.q_cons @DL.bLe (DL.c_var 0) (DL.q_one @DL.bLe (DL.c_lit (PySem.PyData.int (@OfNat.ofNat @Int (nat_lit 20) (@instOfNat (nat_lit 20))))))))))) @DL.c_never @DL.c_nil)
theorem c_look_at_bits_eq : cSts (cm 40) cs_look_at_bits 40 (defBody (top 9)) = some c_look_at_bits := by kernel_rfl
def F_look_at_bits : DL.Spec := fnW 1 1 c_look_at_bits
def N_look_at_interval : List Str := ["bits", "low", "high"]
def P_look_at_interval : List Str := ["bits", "low", "high"]
abbrev sc_look_at_interval : Scope := defScope (top 10)
def fns_look_at_interval : List (Str × List Bool × DL.Spec) := [("look_at_bits", [], F_look_at_bits), ("is_whole", [], F_is_whole), ("size_under", [], F_size_under)]
def keys_look_at_interval : List (Str × DL.Spec) := []
def news_look_at_interval : List (Str × DL.Spec) := []
def kons_look_at_interval : List (Str × Dat) := []
def blts_look_at_interval : List Str := []
abbrev cs_look_at_interval : Cs := ⟨N_look_at_interval, sc_look_at_interval, fun _ => true, kons_look_at_interval, blts_look_at_interval, fns_look_at_interval, keys_look_at_interval, news_look_at_interval⟩
def c_look_at_interval_1 : @DL.SS :=
  (DL.c_do (DL.c_call @K22.F_look_at_bits (DL.a_cons (DL.c_var 0) @DL.a_nil)))
def c_look_at_interval_2 : @DL.SS :=
  (DL.c_ifS (DL.c_or (DL.c_not (DL.c_val (DL.c_call @K22.F_is_whole (DL.a_cons (DL.c_var 1) @DL.a_nil)))) (DL.c_or (DL.c_not (DL.c_val (DL.c_call @K22.F_is_whole (DL.a_cons (DL.c_var 2) @DL.a_nil)))) (DL.c_not (DL.c_val (DL.c_chain (DL.c_lit (PySem.PyData.int (@OfNat.ofNat @Int (nat_lit 0) (@instOfNat (nat_lit 0))))) (DL.q_cons @DL.bLe (DL.c_var 1) (DL.q_cons @DL.bLe (DL.c_var 2) (DL.q_one @DL.bLt (DL.c_call @K22.F_size_under (DL.a_cons (DL.c_var 0) (DL.a_cons (DL.c_lit (PySem.PyData.int (@OfNat.ofNat @Int (nat_lit 0) (@instOfNat (nat_lit 0))))) @DL.a_nil))))))))))) @DL.c_never @DL.c_nil)
def c_look_at_interval : @DL.SS :=
  (DL.c_seq @K22.c_look_at_interval_1 @K22.c_look_at_interval_2)
theorem c_look_at_interval_eq : cSts (cm 40) cs_look_at_interval 40 (defBody (top 10)) = some c_look_at_interval := by kernel_rfl
def F_look_at_interval : DL.Spec := fnW 3 3 c_look_at_interval
def N_is_prefix : List Str := ["bits", "value"]
def P_is_prefix : List Str := ["bits", "value"]
abbrev sc_is_prefix : Scope := defScope (top 11)
def fns_is_prefix : List (Str × List Bool × DL.Spec) := [("look_at_bits", [], F_look_at_bits), ("is_whole", [], F_is_whole), ("size_under", [], F_size_under)]
def keys_is_prefix : List (Str × DL.Spec) := []
def news_is_prefix : List (Str × DL.Spec) := []
def kons_is_prefix : List (Str × Dat) := []
def blts_is_prefix : List Str := ["len", "isinstance", "tuple"]
abbrev cs_is_prefix : Cs := ⟨N_is_prefix, sc_is_prefix, fun _ => true, kons_is_prefix, blts_is_prefix, fns_is_prefix, keys_is_prefix, news_is_prefix⟩
def c_is_prefix_1 : @DL.SS :=
  (DL.c_do (DL.c_call @K22.F_look_at_bits (DL.a_cons (DL.c_var 0) @DL.a_nil)))
def c_is_prefix_2 : @DL.SS :=
  (DL.c_ifS (DL.c_or (DL.c_not (DL.c_val (DL.c_isi "tuple" (DL.c_var 1)))) (DL.c_or (DL.c_val (DL.c_cmp @DL.bNe (DL.c_fn @DL.gLen (DL.a_cons (DL.c_var 1) @DL.a_nil)) (DL.c_lit (PySem.PyData.int (@OfNat.ofNat @Int (nat_lit 2) (@instOfNat (nat_lit 2))))))) (DL.c_or (DL.c_not (DL.c_val (DL.c_call @K22.F_is_whole (DL.a_cons (DL.c_idx @DL.fIdx (DL.c_var 1) (DL.c_lit (PySem.PyData.int (@OfNat.ofNat @Int (nat_lit 0) (@instOfNat (nat_lit 0)))))) @DL.a_nil)))) (DL.c_not (DL.c_val (DL.c_call @K22.F_is_whole (DL.a_cons (DL.c_idx @DL.fIdx (DL.c_var 1) (DL.c_lit (PySem.PyData.int (@OfNat.ofNat @Int (nat_lit 1) (@instOfNat (nat_lit 1)))))) @DL.a_nil))))))) (DL.c_ret (DL.c_lit (PySem.PyData.bool @Bool.false))) @DL.c_nil)
def c_is_prefix_3 : @DL.SS :=
  (DL.c_ifS (DL.c_not (DL.c_val (DL.c_chain (DL.c_lit (PySem.PyData.int (@OfNat.ofNat @Int (nat_lit 0) (@instOfNat (nat_lit 0))))) (DL.q_cons @DL.bLe (DL.c_idx @DL.fIdx (DL.c_var 1) (DL.c_lit (PySem.PyData.int (@OfNat.ofNat @Int (nat_lit 1) (@instOfNat (nat_lit 1)))))) (DL.q_one @DL.bLe (DL.c_var 0)))))) (DL.c_ret (DL.c_lit (PySem.PyData.bool @Bool.false))) @DL.c_nil)
def c_is_prefix_4 : @DL.SS :=
  (DL.c_ret (DL.c_andV (DL.c_chain (DL.c_lit (PySem.PyData.int (@OfNat.ofNat @Int (nat_lit 0) (@instOfNat (nat_lit 0))))) (DL.q_cons @DL.bLe (DL.c_idx @DL.fIdx (DL.c_var 1) (DL.c_lit (PySem.PyData.int (@OfNat.ofNat @Int (nat_lit 0) (@instOfNat (nat_lit 0)))))) (DL.q_one @DL.bLt (DL.c_call @K22.F_size_under (DL.a_cons (DL.c_var 0) (DL.a_cons (DL.c_lit (PySem.PyData.int (@OfNat.ofNat @Int (nat_lit 0) (@instOfNat (nat_lit 0))))) @DL.a_nil)))))) (DL.c_cmp @DL.bEq (DL.c_bin @DL.bMod (DL.c_idx @DL.fIdx (DL.c_var 1) (DL.c_lit (PySem.PyData.int (@OfNat.ofNat @Int (nat_lit 0) (@instOfNat (nat_lit 0)))))) (DL.c_call @K22.F_size_under (DL.a_cons (DL.c_var 0) (DL.a_cons (DL.c_idx @DL.fIdx (DL.c_var 1) (DL.c_lit (PySem.PyData.int (@OfNat.ofNat @Int (nat_lit 1) (@instOfNat (nat_lit 1)))))) @DL.a_nil)))) (DL.c_lit (PySem.PyData.int (@OfNat.ofNat @Int (nat_lit 0) (@instOfNat (nat_lit 0))))))))
def c_is_prefix : @DL.SS :=
  (DL.c_seq @K22.c_is_prefix_1 (DL.c_seq @K22.c_is_prefix_2 (DL.c_seq @K22.c_is_prefix_3 @K22.c_is_prefix_4)))
theorem c_is_prefix_eq : cSts (cm 40) cs_is_prefix 40 (defBody (top 11)) = some c_is_prefix := by kernel_rfl
def F_is_prefix : DL.Spec := fnW 2 2 c_is_prefix
def N_look_at_prefix : List Str := ["bits", "value"]
def P_look_at_prefix : List Str := ["bits", "value"]
abbrev sc_look_at_prefix : Scope := defScope (top 12)
def fns_look_at_prefix : List (Str × List Bool × DL.Spec) := [("is_prefix", [], F_is_prefix)]
def keys_look_at_prefix : List (Str × DL.Spec) := []
def news_look_at_prefix : List (Str × DL.Spec) := []
def kons_look_at_prefix : List (Str × Dat) := []
def blts_look_at_prefix : List Str := []
abbrev cs_look_at_prefix : Cs := ⟨N_look_at_prefix, sc_look_at_prefix, fun _ => true, kons_look_at_prefix, blts_look_at_prefix, fns_look_at_prefix, keys_look_at_prefix, news_look_at_prefix⟩
def c_look_at_prefix : @DL.SS :=
  (DL.c_ifS (DL.c_not (DL.c_val (DL.c_call @K22.F_is_prefix (DL.a_cons (DL.c_var 0) (DL.a_cons (DL.c_var 1) @DL.a_nil))))) @DL.c_never @DL.c_nil)
theorem c_look_at_prefix_eq : cSts (cm 40) cs_look_at_prefix 40 (defBody (top 12)) = some c_look_at_prefix := by kernel_rfl
def F_look_at_prefix : DL.Spec := fnW 2 2 c_look_at_prefix
def N_interval_of : List Str := ["bits", "prefix"]
def P_interval_of : List Str := ["bits", "prefix"]
abbrev sc_interval_of : Scope := defScope (top 13)
def fns_interval_of : List (Str × List Bool × DL.Spec) := [("look_at_prefix", [], F_look_at_prefix), ("size_under", [], F_size_under)]
def keys_interval_of : List (Str × DL.Spec) := []
def news_interval_of : List (Str × DL.Spec) := []
def kons_interval_of : List (Str × Dat) := []
def blts_interval_of : List Str := []
abbrev cs_interval_of : Cs := ⟨N_interval_of, sc_interval_of, fun _ => true, kons_interval_of, blts_interval_of, fns_interval_of, keys_interval_of, news_interval_of⟩
def c_interval_of_1 : @DL.SS :=
  (DL.c_do (DL.c_call @K22.F_look_at_prefix (DL.a_cons (DL.c_var 0) (DL.a_cons (DL.c_var 1) @DL.a_nil))))
def c_interval_of_2 : @DL.SS :=
  (DL.c_ret (DL.c_tup (DL.a_cons (DL.c_idx @DL.fIdx (DL.c_var 1) (DL.c_lit (PySem.PyData.int (@OfNat.ofNat @Int (nat_lit 0) (@instOfNat (nat_lit 0)))))) (DL.a_cons (DL.c_bin @DL.bSub (DL.c_bin @DL.bAdd (DL.c_idx @DL.fIdx (DL.c_var 1) (DL.c_lit (PySem.PyData.int (@OfNat.ofNat @Int (nat_lit 0) (@instOfNat (nat_lit 0)))))) (DL.c_call @K22.F_size_under (DL.a_cons (DL.c_var 0) (DL.a_cons (DL.c_idx @DL.fIdx (DL.c_var 1) (DL.c_lit (PySem.PyData.int (@OfNat.ofNat @Int (nat_lit 1) (@instOfNat (nat_lit 1)))))) @DL.a_nil)))) (DL.c_lit (PySem.PyData.int (@OfNat.ofNat @Int (nat_lit 1) (@instOfNat (nat_lit 1)))))) @DL.a_nil))))
def c_interval_of : @DL.SS :=
  (DL.c_seq @K22.c_interval_of_1 @K22.c_interval_of_2)
theorem c_interval_of_eq : cSts (cm 40) cs_interval_of 40 (defBody (top 13)) = some c_interval_of := by kernel_rfl
def F_interval_of : DL.Spec := fnW 2 2 c_interval_of
def N_prefixes_of : List Str := ["bits", "low", "high", "found", "told"]
def P_prefixes_of : List Str := ["bits", "low", "high"]
abbrev sc_prefixes_of : Scope := defScope (top 14)
def fns_prefixes_of : List (Str × List Bool × DL.Spec) := [("look_at_interval", [], F_look_at_interval), ("size_under", [], F_size_under)]
def keys_prefixes_of : List (Str × DL.Spec) := []
def news_prefixes_of : List (Str × DL.Spec) := []
def kons_prefixes_of : List (Str × Dat) := []
def blts_prefixes_of : List Str := ["tuple"]
abbrev cs_prefixes_of : Cs := ⟨N_prefixes_of, sc_prefixes_of, fun _ => true, kons_prefixes_of, blts_prefixes_of, fns_prefixes_of, keys_prefixes_of, news_prefixes_of⟩
def c_prefixes_of_1 : @DL.SS :=
  (DL.c_do (DL.c_call @K22.F_look_at_interval (DL.a_cons (DL.c_var 0) (DL.a_cons (DL.c_var 1) (DL.a_cons (DL.c_var 2) @DL.a_nil)))))
def c_prefixes_of_2 : @DL.SS :=
  (DL.c_set 3 (DL.c_lst @DL.a_nil))
def c_prefixes_of_3 : @DL.SS :=
  (DL.c_set 4 (DL.c_var 0))
def c_prefixes_of_b1 : @DL.SS :=
  (DL.c_aug 4 @DL.bSub (DL.c_lit (PySem.PyData.int (@OfNat.ofNat @Int (nat_lit 1) (@instOfNat (nat_lit 1))))))
def c_prefixes_of_4 : @DL.SS :=
  (DL.c_while (DL.c_and (DL.c_val (DL.c_cmp @DL.bGt (DL.c_var 4) (DL.c_lit (PySem.PyData.int (@OfNat.ofNat @Int (nat_lit 0) (@instOfNat (nat_lit 0))))))) (DL.c_and (DL.c_val (DL.c_cmp @DL.bEq (DL.c_bin @DL.bMod (DL.c_var 1) (DL.c_call @K22.F_size_under (DL.a_cons (DL.c_var 0) (DL.a_cons (DL.c_bin @DL.bSub (DL.c_var 4) (DL.c_lit (PySem.PyData.int (@OfNat.ofNat @Int (nat_lit 1) (@instOfNat (nat_lit 1)))))) @DL.a_nil)))) (DL.c_lit (PySem.PyData.int (@OfNat.ofNat @Int (nat_lit 0) (@instOfNat (nat_lit 0))))))) (DL.c_val (DL.c_cmp @DL.bLe (DL.c_bin @DL.bSub (DL.c_bin @DL.bAdd (DL.c_var 1) (DL.c_call @K22.F_size_under (DL.a_cons (DL.c_var 0) (DL.a_cons (DL.c_bin @DL.bSub (DL.c_var 4) (DL.c_lit (PySem.PyData.int (@OfNat.ofNat @Int (nat_lit 1) (@instOfNat (nat_lit 1)))))) @DL.a_nil)))) (DL.c_lit (PySem.PyData.int (@OfNat.ofNat @Int (nat_lit 1) (@instOfNat (nat_lit 1)))))) (DL.c_var 2))))) @K22.c_prefixes_of_b1)
def c_prefixes_of_5 : @DL.SS :=
  (DL.c_app 3 (DL.c_tup (DL.a_cons (DL.c_var 1) (DL.a_cons (DL.c_var 4) @DL.a_nil))))
def c_prefixes_of_6 : @DL.SS :=
  (DL.c_aug 1 @DL.bIAdd (DL.c_call @K22.F_size_under (DL.a_cons (DL.c_var 0) (DL.a_cons (DL.c_var 4) @DL.a_nil))))
def c_prefixes_of_7 : @DL.SS :=
  (DL.c_while (DL.c_val (DL.c_cmp @DL.bLe (DL.c_var 1) (DL.c_var 2))) (DL.c_seq @K22.c_prefixes_of_3 (DL.c_seq @K22.c_prefixes_of_4 (DL.c_seq @K22.c_prefixes_of_5 @K22.c_prefixes_of_6))))
def c_prefixes_of_8 : @DL.SS :=
  (DL.c_ret (DL.c_fn @DL.gTuple (DL.a_cons (DL.c_var 3) @DL.a_nil)))
def c_prefixes_of : @DL.SS :=
  (DL.c_seq @K22.c_prefixes_of_1 (DL.c_seq @K22.c_prefixes_of_2 (DL.c_seq @K22.c_prefixes_of_7 @K22.c_prefixes_of_8)))
theorem c_prefixes_of_eq : cSts (cm 40) cs_prefixes_of 40 (defBody (top 14)) = some c_prefixes_of := by kernel_rfl
def F_prefixes_of : DL.Spec := fnW 3 5 c_prefixes_of
def N_prefix_signs : List Str := ["bits", "prefix", "told", "at"]
def P_prefix_signs : List Str := ["bits", "prefix"]
abbrev sc_prefix_signs : Scope := defScope (top 15)
def fns_prefix_signs : List (Str × List Bool × DL.Spec) := [("look_at_prefix", [], F_look_at_prefix), ("size_under", [], F_size_under)]
def keys_prefix_signs : List (Str × DL.Spec) := []
def news_prefix_signs : List (Str × DL.Spec) := []
def kons_prefix_signs : List (Str × Dat) := []
def blts_prefix_signs : List Str := ["range", "str"]
abbrev cs_prefix_signs : Cs := ⟨N_prefix_signs, sc_prefix_signs, fun _ => true, kons_prefix_signs, blts_prefix_signs, fns_prefix_signs, keys_prefix_signs, news_prefix_signs⟩
def c_prefix_signs_1 : @DL.SS :=
  (DL.c_do (DL.c_call @K22.F_look_at_prefix (DL.a_cons (DL.c_var 0) (DL.a_cons (DL.c_var 1) @DL.a_nil))))
def c_prefix_signs_2 : @DL.SS :=
  (DL.c_set 2 (DL.c_lc [3] (DL.w_rng1 (DL.c_idx @DL.fIdx (DL.c_var 1) (DL.c_lit (PySem.PyData.int (@OfNat.ofNat @Int (nat_lit 1) (@instOfNat (nat_lit 1))))))) (DL.g_name 3) @DL.b_yes (DL.c_fn @DL.gStr (DL.a_cons (DL.c_bin @DL.bMod (DL.c_bin @DL.bDiv (DL.c_idx @DL.fIdx (DL.c_var 1) (DL.c_lit (PySem.PyData.int (@OfNat.ofNat @Int (nat_lit 0) (@instOfNat (nat_lit 0)))))) (DL.c_call @K22.F_size_under (DL.a_cons (DL.c_var 0) (DL.a_cons (DL.c_bin @DL.bAdd (DL.c_var 3) (DL.c_lit (PySem.PyData.int (@OfNat.ofNat @Int (nat_lit 1) (@instOfNat (nat_lit 1)))))) @DL.a_nil)))) (DL.c_lit (PySem.PyData.int (@OfNat.ofNat @Int (nat_lit 2) (@instOfNat (nat_lit 2)))))) @DL.a_nil))))
def c_prefix_signs_3 : @DL.SS :=
  (DL.c_ret (DL.c_bin @DL.bAdd (DL.c_meth @DL.mJoin (DL.c_lit (PySem.PyData.str (PySem.Str.ofString ""))) (DL.a_cons (DL.c_var 2) @DL.a_nil)) (DL.c_bin @DL.bMul (DL.c_lit (PySem.PyData.str (PySem.Str.ofString "*"))) (DL.c_bin @DL.bSub (DL.c_var 0) (DL.c_idx @DL.fIdx (DL.c_var 1) (DL.c_lit (PySem.PyData.int (@OfNat.ofNat @Int (nat_lit 1) (@instOfNat (nat_lit 1))))))))))
def c_prefix_signs : @DL.SS :=
  (DL.c_seq @K22.c_prefix_signs_1 (DL.c_seq @K22.c_prefix_signs_2 @K22.c_prefix_signs_3))
theorem c_prefix_signs_eq : cSts (cm 40) cs_prefix_signs 40 (defBody (top 15)) = some c_prefix_signs := by kernel_rfl
def F_prefix_signs : DL.Spec := fnW 2 4 c_prefix_signs
def N_joined_prefixes : List Str := ["bits", "prefixes", "borders", "prefix", "runs", "low", "high", "found"]
def P_joined_prefixes : List Str := ["bits", "prefixes"]
abbrev sc_joined_prefixes : Scope := defScope (top 16)
def fns_joined_prefixes : List (Str × List Bool × DL.Spec) := [("look_at_bits", [], F_look_at_bits), ("interval_of", [], F_interval_of), ("prefixes_of", [], F_prefixes_of)]
def keys_joined_prefixes : List (Str × DL.Spec) := []
def news_joined_prefixes : List (Str × DL.Spec) := []
def kons_joined_prefixes : List (Str × Dat) := []
def blts_joined_prefixes : List Str := ["len", "sorted", "max"]
abbrev cs_joined_prefixes : Cs := ⟨N_joined_prefixes, sc_joined_prefixes, fun _ => true, kons_joined_prefixes, blts_joined_prefixes, fns_joined_prefixes, keys_joined_prefixes, news_joined_prefixes⟩
def c_joined_prefixes_1 : @DL.SS :=
  (DL.c_do (DL.c_call @K22.F_look_at_bits (DL.a_cons (DL.c_var 0) @DL.a_nil)))
def c_joined_prefixes_2 : @DL.SS :=
  (DL.c_set 2 (DL.c_fn @DL.gSorted (DL.a_cons (DL.c_lc [3] (DL.w_seq (DL.c_var 1)) (DL.g_name 3) @DL.b_yes (DL.c_call @K22.F_interval_of (DL.a_cons (DL.c_var 0) (DL.a_cons (DL.c_var 3) @DL.a_nil)))) @DL.a_nil)))
def c_joined_prefixes_3 : @DL.SS :=
  (DL.c_set 4 (DL.c_lst @DL.a_nil))
def c_joined_prefixes_b1 : @DL.SS :=
  (DL.c_ifS (DL.c_and (DL.c_val (DL.c_cmp @DL.bGt (DL.c_fn @DL.gLen (DL.a_cons (DL.c_var 4) @DL.a_nil)) (DL.c_lit (PySem.PyData.int (@OfNat.ofNat @Int (nat_lit 0) (@instOfNat (nat_lit 0))))))) (DL.c_val (DL.c_cmp @DL.bLe (DL.c_var 5) (DL.c_bin @DL.bAdd (DL.c_idx @DL.fIdx (DL.c_idx @DL.fIdx (DL.c_var 4) (DL.c_neg (DL.c_lit (PySem.PyData.int (@OfNat.ofNat @Int (nat_lit 1) (@instOfNat (nat_lit 1))))))) (DL.c_lit (PySem.PyData.int (@OfNat.ofNat @Int (nat_lit 1) (@instOfNat (nat_lit 1)))))) (DL.c_lit (PySem.PyData.int (@OfNat.ofNat @Int (nat_lit 1) (@instOfNat (nat_lit 1))))))))) (DL.c_seti 4 (DL.c_neg (DL.c_lit (PySem.PyData.int (@OfNat.ofNat @Int (nat_lit 1) (@instOfNat (nat_lit 1)))))) (DL.c_tup (DL.a_cons (DL.c_idx @DL.fIdx (DL.c_idx @DL.fIdx (DL.c_var 4) (DL.c_neg (DL.c_lit (PySem.PyData.int (@OfNat.ofNat @Int (nat_lit 1) (@instOfNat (nat_lit 1))))))) (DL.c_lit (PySem.PyData.int (@OfNat.ofNat @Int (nat_lit 0) (@instOfNat (nat_lit 0)))))) (DL.a_cons (DL.c_fn @DL.gMax (DL.a_cons (DL.c_idx @DL.fIdx (DL.c_idx @DL.fIdx (DL.c_var 4) (DL.c_neg (DL.c_lit (PySem.PyData.int (@OfNat.ofNat @Int (nat_lit 1) (@instOfNat (nat_lit 1))))))) (DL.c_lit (PySem.PyData.int (@OfNat.ofNat @Int (nat_lit 1) (@instOfNat (nat_lit 1)))))) (DL.a_cons (DL.c_var 6) @DL.a_nil))) @DL.a_nil)))) (DL.c_app 4 (DL.c_tup (DL.a_cons (DL.c_var 5) (DL.a_cons (DL.c_var 6) @DL.a_nil)))))
def c_joined_prefixes_4 : @DL.SS :=
  (DL.c_for (DL.w_seq (DL.c_var 2)) (DL.g_tup 2 (DL.g_cons (DL.g_name 5) (DL.g_cons (DL.g_name 6) @DL.g_nil))) @K22.c_joined_prefixes_b1)
def c_joined_prefixes_5 : @DL.SS :=
  (DL.c_set 7 (DL.c_tup @DL.a_nil))
def c_joined_prefixes_b2 : @DL.SS :=
  (DL.c_set 7 (DL.c_bin @DL.bAdd (DL.c_var 7) (DL.c_call @K22.F_prefixes_of (DL.a_cons (DL.c_var 0) (DL.a_cons (DL.c_var 5) (DL.a_cons (DL.c_var 6) @DL.a_nil))))))
def c_joined_prefixes_6 : @DL.SS :=
  (DL.c_for (DL.w_seq (DL.c_var 4)) (DL.g_tup 2 (DL.g_cons (DL.g_name 5) (DL.g_cons (DL.g_name 6) @DL.g_nil))) @K22.c_joined_prefixes_b2)
def c_joined_prefixes_7 : @DL.SS :=
  (DL.c_ret (DL.c_var 7))
def c_joined_prefixes : @DL.SS :=
  (DL.c_seq @K22.c_joined_prefixes_1 (DL.c_seq @K22.c_joined_prefixes_2 (DL.c_seq @K22.c_joined_prefixes_3 (DL.c_seq @K22.c_joined_prefixes_4 (DL.c_seq @K22.c_joined_prefixes_5 (DL.c_seq @K22.c_joined_prefixes_6 @K22.c_joined_prefixes_7))))))
theorem c_joined_prefixes_eq : cSts (cm 40) cs_joined_prefixes 40 (defBody (top 16)) = some c_joined_prefixes := by kernel_rfl
def F_joined_prefixes : DL.Spec := fnW 2 8 c_joined_prefixes
def N_within_prefix : List Str := ["bits", "prefix", "value", "low", "high"]
def P_within_prefix : List Str := ["bits", "prefix", "value"]
abbrev sc_within_prefix : Scope := defScope (top 19)
def fns_within_prefix : List (Str × List Bool × DL.Spec) := [("interval_of", [], F_interval_of)]
def keys_within_prefix : List (Str × DL.Spec) := []
def news_within_prefix : List (Str × DL.Spec) := []
def kons_within_prefix : List (Str × Dat) := []
def blts_within_prefix : List Str := []
abbrev cs_within_prefix : Cs := ⟨N_within_prefix, sc_within_prefix, fun _ => true, kons_within_prefix, blts_within_prefix, fns_within_prefix, keys_within_prefix, news_within_prefix⟩
def c_within_prefix_1 : @DL.SS :=
  (DL.c_unp (DL.g_tup 2 (DL.g_cons (DL.g_name 3) (DL.g_cons (DL.g_name 4) @DL.g_nil))) (DL.c_call @K22.F_interval_of (DL.a_cons (DL.c_var 0) (DL.a_cons (DL.c_var 1) @DL.a_nil))))
def c_within_prefix_2 : @DL.SS :=
  (DL.c_ret (DL.c_chain (DL.c_var 3) (DL.q_cons @DL.bLe (DL.c_var 2) (DL.q_one @DL.bLe (DL.c_var 4)))))
def c_within_prefix : @DL.SS :=
  (DL.c_seq @K22.c_within_prefix_1 @K22.c_within_prefix_2)
theorem c_within_prefix_eq : cSts (cm 40) cs_within_prefix 40 (defBody (top 19)) = some c_within_prefix := by kernel_rfl
def F_within_prefix : DL.Spec := fnW 3 5 c_within_prefix
def N_told_bits : List Str := ["prefix"]
def P_told_bits : List Str := ["prefix"]
abbrev sc_told_bits : Scope := defScope (top 18)
def fns_told_bits : List (Str × List Bool × DL.Spec) := []
def keys_told_bits : List (Str × DL.Spec) := []
def news_told_bits : List (Str × DL.Spec) := []
def kons_told_bits : List (Str × Dat) := []
def blts_told_bits : List Str := []
abbrev cs_told_bits : Cs := ⟨N_told_bits, sc_told_bits, fun _ => true, kons_told_bits, blts_told_bits, fns_told_bits, keys_told_bits, news_told_bits⟩
def c_told_bits : @DL.SS :=
  (DL.c_ret (DL.c_idx @DL.fIdx (DL.c_var 0) (DL.c_lit (PySem.PyData.int (@OfNat.ofNat @Int (nat_lit 1) (@instOfNat (nat_lit 1)))))))
theorem c_told_bits_eq : cSts (cm 40) cs_told_bits 40 (defBody (top 18)) = some c_told_bits := by kernel_rfl
def F_told_bits : DL.Spec := fnW 1 1 c_told_bits
def N_longest_fit : List Str := ["bits", "prefixes", "value", "found", "one"]
def P_longest_fit : List Str := ["bits", "prefixes", "value"]
abbrev sc_longest_fit : Scope := defScope (top 17)
def fns_longest_fit : List (Str × List Bool × DL.Spec) := [("look_at_interval", [], F_look_at_interval), ("within_prefix", [], F_within_prefix)]
def keys_longest_fit : List (Str × DL.Spec) := [("told_bits", F_told_bits)]
def news_longest_fit : List (Str × DL.Spec) := []
def kons_longest_fit : List (Str × Dat) := []
def blts_longest_fit : List Str := ["len", "max"]
abbrev cs_longest_fit : Cs := ⟨N_longest_fit, sc_longest_fit, fun _ => true, kons_longest_fit, blts_longest_fit, fns_longest_fit, keys_longest_fit, news_longest_fit⟩
def c_longest_fit_1 : @DL.SS :=
  (DL.c_do (DL.c_call @K22.F_look_at_interval (DL.a_cons (DL.c_var 0) (DL.a_cons (DL.c_var 2) (DL.a_cons (DL.c_var 2) @DL.a_nil)))))
def c_longest_fit_2 : @DL.SS :=
  (DL.c_set 3 (DL.c_lc [4] (DL.w_seq (DL.c_var 1)) (DL.g_name 4) (DL.c_val (DL.c_call @K22.F_within_prefix (DL.a_cons (DL.c_var 0) (DL.a_cons (DL.c_var 4) (DL.a_cons (DL.c_var 2) @DL.a_nil))))) (DL.c_var 4)))
def c_longest_fit_3 : @DL.SS :=
  (DL.c_ret (DL.c_if (DL.c_val (DL.c_cmp @DL.bGt (DL.c_fn @DL.gLen (DL.a_cons (DL.c_var 3) @DL.a_nil)) (DL.c_lit (PySem.PyData.int (@OfNat.ofNat @Int (nat_lit 0) (@instOfNat (nat_lit 0))))))) (DL.c_fn (DL.gMaxK @K22.F_told_bits) (DL.a_cons (DL.c_var 3) @DL.a_nil)) (DL.c_lit @PySem.PyData.none)))
def c_longest_fit : @DL.SS :=
  (DL.c_seq @K22.c_longest_fit_1 (DL.c_seq @K22.c_longest_fit_2 @K22.c_longest_fit_3))
theorem c_longest_fit_eq : cSts (cm 40) cs_longest_fit 40 (defBody (top 17)) = some c_longest_fit := by kernel_rfl
def F_longest_fit : DL.Spec := fnW 3 5 c_longest_fit
def N_apart_by : List Str := ["bits", "low", "high", "value", "_"]
def P_apart_by : List Str := ["bits", "low", "high"]
abbrev sc_apart_by : Scope := defScope (top 20)
def fns_apart_by : List (Str × List Bool × DL.Spec) := [("prefixes_of", [], F_prefixes_of)]
def keys_apart_by : List (Str × DL.Spec) := []
def news_apart_by : List (Str × DL.Spec) := []
def kons_apart_by : List (Str × Dat) := []
def blts_apart_by : List Str := ["tuple"]
abbrev cs_apart_by : Cs := ⟨N_apart_by, sc_apart_by, fun _ => true, kons_apart_by, blts_apart_by, fns_apart_by, keys_apart_by, news_apart_by⟩
def c_apart_by : @DL.SS :=
  (DL.c_ret (DL.c_fn @DL.gTuple (DL.a_cons (DL.c_lc [3, 4] (DL.w_seq (DL.c_call @K22.F_prefixes_of (DL.a_cons (DL.c_var 0) (DL.a_cons (DL.c_var 1) (DL.a_cons (DL.c_var 2) @DL.a_nil))))) (DL.g_tup 2 (DL.g_cons (DL.g_name 3) (DL.g_cons (DL.g_name 4) @DL.g_nil))) @DL.b_yes (DL.c_var 3)) @DL.a_nil)))
theorem c_apart_by_eq : cSts (cm 40) cs_apart_by 40 (defBody (top 20)) = some c_apart_by := by kernel_rfl
def F_apart_by : DL.Spec := fnW 3 5 c_apart_by
def N_shared_within : List Str := ["bits", "one", "two", "low", "high", "told", "first"]
def P_shared_within : List Str := ["bits", "one", "two", "low", "high"]
abbrev sc_shared_within : Scope := defScope (top 22)
def fns_shared_within : List (Str × List Bool × DL.Spec) := [("size_under", [], F_size_under)]
def keys_shared_within : List (Str × DL.Spec) := []
def news_shared_within : List (Str × DL.Spec) := []
def kons_shared_within : List (Str × Dat) := []
def blts_shared_within : List Str := []
abbrev cs_shared_within : Cs := ⟨N_shared_within, sc_shared_within, fun _ => true, kons_shared_within, blts_shared_within, fns_shared_within, keys_shared_within, news_shared_within⟩
def c_shared_within_1 : @DL.SS :=
  (DL.c_set 5 (DL.c_var 0))
def c_shared_within_b1 : @DL.SS :=
  (DL.c_aug 5 @DL.bSub (DL.c_lit (PySem.PyData.int (@OfNat.ofNat @Int (nat_lit 1) (@instOfNat (nat_lit 1))))))
def c_shared_within_2 : @DL.SS :=
  (DL.c_while (DL.c_val (DL.c_cmp @DL.bNe (DL.c_bin @DL.bDiv (DL.c_var 1) (DL.c_call @K22.F_size_under (DL.a_cons (DL.c_var 0) (DL.a_cons (DL.c_var 5) @DL.a_nil)))) (DL.c_bin @DL.bDiv (DL.c_var 2) (DL.c_call @K22.F_size_under (DL.a_cons (DL.c_var 0) (DL.a_cons (DL.c_var 5) @DL.a_nil)))))) @K22.c_shared_within_b1)
def c_shared_within_3 : @DL.SS :=
  (DL.c_set 6 (DL.c_bin @DL.bMul (DL.c_bin @DL.bDiv (DL.c_var 1) (DL.c_call @K22.F_size_under (DL.a_cons (DL.c_var 0) (DL.a_cons (DL.c_var 5) @DL.a_nil)))) (DL.c_call @K22.F_size_under (DL.a_cons (DL.c_var 0) (DL.a_cons (DL.c_var 5) @DL.a_nil)))))
def c_shared_within_4 : @DL.SS :=
  (DL.c_ret (DL.c_andV (DL.c_cmp @DL.bLe (DL.c_var 3) (DL.c_var 6)) (DL.c_cmp @DL.bLe (DL.c_bin @DL.bSub (DL.c_bin @DL.bAdd (DL.c_var 6) (DL.c_call @K22.F_size_under (DL.a_cons (DL.c_var 0) (DL.a_cons (DL.c_var 5) @DL.a_nil)))) (DL.c_lit (PySem.PyData.int (@OfNat.ofNat @Int (nat_lit 1) (@instOfNat (nat_lit 1)))))) (DL.c_var 4))))
def c_shared_within : @DL.SS :=
  (DL.c_seq @K22.c_shared_within_1 (DL.c_seq @K22.c_shared_within_2 (DL.c_seq @K22.c_shared_within_3 @K22.c_shared_within_4)))
theorem c_shared_within_eq : cSts (cm 40) cs_shared_within 40 (defBody (top 22)) = some c_shared_within := by kernel_rfl
def F_shared_within : DL.Spec := fnW 5 7 c_shared_within
def N_are_apart : List Str := ["bits", "low", "high", "values", "one", "two"]
def P_are_apart : List Str := ["bits", "low", "high", "values"]
abbrev sc_are_apart : Scope := defScope (top 21)
def fns_are_apart : List (Str × List Bool × DL.Spec) := [("look_at_interval", [], F_look_at_interval), ("shared_within", [], F_shared_within), ("is_whole", [], F_is_whole)]
def keys_are_apart : List (Str × DL.Spec) := []
def news_are_apart : List (Str × DL.Spec) := []
def kons_are_apart : List (Str × Dat) := []
def blts_are_apart : List Str := ["isinstance", "tuple", "zip", "all", "any"]
abbrev cs_are_apart : Cs := ⟨N_are_apart, sc_are_apart, fun _ => true, kons_are_apart, blts_are_apart, fns_are_apart, keys_are_apart, news_are_apart⟩
def c_are_apart_1 : @DL.SS :=
  (DL.c_do (DL.c_call @K22.F_look_at_interval (DL.a_cons (DL.c_var 0) (DL.a_cons (DL.c_var 1) (DL.a_cons (DL.c_var 2) @DL.a_nil)))))
def c_are_apart_2 : @DL.SS :=
  (DL.c_ifS (DL.c_or (DL.c_not (DL.c_val (DL.c_isi "tuple" (DL.c_var 3)))) (DL.c_not (DL.c_val (DL.c_fn @DL.gAll (DL.a_cons (DL.c_lc [4] (DL.w_seq (DL.c_var 3)) (DL.g_name 4) @DL.b_yes (DL.c_andV (DL.c_call @K22.F_is_whole (DL.a_cons (DL.c_var 4) @DL.a_nil)) (DL.c_chain (DL.c_var 1) (DL.q_cons @DL.bLe (DL.c_var 4) (DL.q_one @DL.bLe (DL.c_var 2)))))) @DL.a_nil))))) (DL.c_ret (DL.c_lit (PySem.PyData.bool @Bool.false))) @DL.c_nil)
def c_are_apart_3 : @DL.SS :=
  (DL.c_ifS (DL.c_not (DL.c_val (DL.c_fn @DL.gAll (DL.a_cons (DL.c_lc [4, 5] (DL.w_zip (DL.c_var 3) (DL.c_slice @DL.fSl (DL.c_var 3) (DL.o_some (DL.c_lit (PySem.PyData.int (@OfNat.ofNat @Int (nat_lit 1) (@instOfNat (nat_lit 1)))))) @DL.o_no)) (DL.g_tup 2 (DL.g_cons (DL.g_name 4) (DL.g_cons (DL.g_name 5) @DL.g_nil))) @DL.b_yes (DL.c_cmp @DL.bLt (DL.c_var 4) (DL.c_var 5))) @DL.a_nil)))) (DL.c_ret (DL.c_lit (PySem.PyData.bool @Bool.false))) @DL.c_nil)
def c_are_apart_4 : @DL.SS :=
  (DL.c_ret (DL.c_notV (DL.c_fn @DL.gAny (DL.a_cons (DL.c_lc [4, 5] (DL.w_zip (DL.c_var 3) (DL.c_slice @DL.fSl (DL.c_var 3) (DL.o_some (DL.c_lit (PySem.PyData.int (@OfNat.ofNat @Int (nat_lit 1) (@instOfNat (nat_lit 1)))))) @DL.o_no)) (DL.g_tup 2 (DL.g_cons (DL.g_name 4) (DL.g_cons (DL.g_name 5) @DL.g_nil))) @DL.b_yes (DL.c_call @K22.F_shared_within (DL.a_cons (DL.c_var 0) (DL.a_cons (DL.c_var 4) (DL.a_cons (DL.c_var 5) (DL.a_cons (DL.c_var 1) (DL.a_cons (DL.c_var 2) @DL.a_nil))))))) @DL.a_nil))))
def c_are_apart : @DL.SS :=
  (DL.c_seq @K22.c_are_apart_1 (DL.c_seq @K22.c_are_apart_2 (DL.c_seq @K22.c_are_apart_3 @K22.c_are_apart_4)))
theorem c_are_apart_eq : cSts (cm 40) cs_are_apart 40 (defBody (top 21)) = some c_are_apart := by kernel_rfl
def F_are_apart : DL.Spec := fnW 4 6 c_are_apart
def N_law_draws : List Str := ["script"]
def P_law_draws : List Str := ["script"]
abbrev sc_law_draws : Scope := defScope (top 24)
def fns_law_draws : List (Str × List Bool × DL.Spec) := []
def keys_law_draws : List (Str × DL.Spec) := []
def news_law_draws : List (Str × DL.Spec) := []
def kons_law_draws : List (Str × Dat) := []
def blts_law_draws : List Str := ["list"]
abbrev cs_law_draws : Cs := ⟨N_law_draws, sc_law_draws, fun _ => true, kons_law_draws, blts_law_draws, fns_law_draws, keys_law_draws, news_law_draws⟩
abbrev x_law_draws : PySem.Expr := retE (defBody (top 24))
def c_law_draws : @DL.SE :=
  (DL.c_lst (DL.a_cons (DL.c_fn @DL.gList (DL.a_cons (DL.c_var 0) @DL.a_nil)) (DL.a_cons (DL.c_lit (PySem.PyData.int (@OfNat.ofNat @Int (nat_lit 0) (@instOfNat (nat_lit 0))))) (DL.a_cons (DL.c_lit (PySem.PyData.int (@OfNat.ofNat @Int (nat_lit 0) (@instOfNat (nat_lit 0))))) (DL.a_cons (DL.c_lit (PySem.PyData.int (@OfNat.ofNat @Int (nat_lit 1) (@instOfNat (nat_lit 1))))) @DL.a_nil)))))
theorem c_law_draws_eq : (cm 40).E cs_law_draws x_law_draws = some c_law_draws := by kernel_rfl
def F_law_draws : DL.Spec := fnN 1 1 c_law_draws
def N_law_draw : List Str := ["draws", "limit", "cell", "value"]
def P_law_draw : List Str := ["draws", "limit"]
abbrev sc_law_draw : Scope := defScope (top 25)
def fns_law_draw : List (Str × List Bool × DL.Spec) := []
def keys_law_draw : List (Str × DL.Spec) := []
def news_law_draw : List (Str × DL.Spec) := []
def kons_law_draw : List (Str × Dat) := []
def blts_law_draw : List Str := ["len", "int"]
abbrev cs_law_draw : Cs := ⟨N_law_draw, sc_law_draw, fun _ => true, kons_law_draw, blts_law_draw, fns_law_draw, keys_law_draw, news_law_draw⟩
def c_law_draw_1 : @DL.SS :=
  (DL.c_set 2 (DL.c_idx @DL.fIdx (DL.c_idx @DL.fIdx (DL.c_var 0) (DL.c_lit (PySem.PyData.int (@OfNat.ofNat @Int (nat_lit 0) (@instOfNat (nat_lit 0)))))) (DL.c_idx @DL.fIdx (DL.c_var 0) (DL.c_lit (PySem.PyData.int (@OfNat.ofNat @Int (nat_lit 1) (@instOfNat (nat_lit 1))))))))
def c_law_draw_2 : @DL.SS :=
  (DL.c_seti 0 (DL.c_lit (PySem.PyData.int (@OfNat.ofNat @Int (nat_lit 1) (@instOfNat (nat_lit 1))))) (DL.c_bin @DL.bAdd (DL.c_idx @DL.fIdx (DL.c_var 0) (DL.c_lit (PySem.PyData.int (@OfNat.ofNat @Int (nat_lit 1) (@instOfNat (nat_lit 1)))))) (DL.c_lit (PySem.PyData.int (@OfNat.ofNat @Int (nat_lit 1) (@instOfNat (nat_lit 1)))))))
def c_law_draw_3 : @DL.SS :=
  (DL.c_ifS (DL.c_val (DL.c_cmp @DL.bGe (DL.c_var 2) (DL.c_bin @DL.bPow (DL.c_lit (PySem.PyData.int (@OfNat.ofNat @Int (nat_lit 10) (@instOfNat (nat_lit 10))))) (DL.c_lit (PySem.PyData.int (@OfNat.ofNat @Int (nat_lit 18) (@instOfNat (nat_lit 18)))))))) (DL.c_seti 0 (DL.c_lit (PySem.PyData.int (@OfNat.ofNat @Int (nat_lit 2) (@instOfNat (nat_lit 2))))) (DL.c_var 2)) @DL.c_nil)
def c_law_draw_4 : @DL.SS :=
  (DL.c_seti 0 (DL.c_lit (PySem.PyData.int (@OfNat.ofNat @Int (nat_lit 3) (@instOfNat (nat_lit 3))))) (DL.c_bin @DL.bMod (DL.c_fn @DL.gInt (DL.a_cons (DL.c_bin @DL.bAdd (DL.c_bin @DL.bAdd (DL.c_bin @DL.bMul (DL.c_idx @DL.fIdx (DL.c_var 0) (DL.c_lit (PySem.PyData.int (@OfNat.ofNat @Int (nat_lit 3) (@instOfNat (nat_lit 3)))))) (DL.c_lit (PySem.PyData.int (@OfNat.ofNat @Int (nat_lit 48271) (@instOfNat (nat_lit 48271)))))) (DL.c_var 2)) (DL.c_lit (PySem.PyData.int (@OfNat.ofNat @Int (nat_lit 13) (@instOfNat (nat_lit 13)))))) @DL.a_nil)) (DL.c_lit (PySem.PyData.int (@OfNat.ofNat @Int (nat_lit 2147483647) (@instOfNat (nat_lit 2147483647)))))))
def c_law_draw_5 : @DL.SS :=
  (DL.c_ifS (DL.c_and (DL.c_val (DL.c_cmp @DL.bEq (DL.c_idx @DL.fIdx (DL.c_var 0) (DL.c_lit (PySem.PyData.int (@OfNat.ofNat @Int (nat_lit 2) (@instOfNat (nat_lit 2)))))) (DL.c_lit (PySem.PyData.int (@OfNat.ofNat @Int (nat_lit 0) (@instOfNat (nat_lit 0))))))) (DL.c_val (DL.c_cmp @DL.bLt (DL.c_idx @DL.fIdx (DL.c_var 0) (DL.c_lit (PySem.PyData.int (@OfNat.ofNat @Int (nat_lit 1) (@instOfNat (nat_lit 1)))))) (DL.c_fn @DL.gLen (DL.a_cons (DL.c_idx @DL.fIdx (DL.c_var 0) (DL.c_lit (PySem.PyData.int (@OfNat.ofNat @Int (nat_lit 0) (@instOfNat (nat_lit 0)))))) @DL.a_nil))))) (DL.c_seq @K22.c_law_draw_1 (DL.c_seq @K22.c_law_draw_2 (DL.c_seq @K22.c_law_draw_3 @K22.c_law_draw_4))) @DL.c_nil)
def c_law_draw_6 : @DL.SS :=
  (DL.c_set 3 (DL.c_bin @DL.bMod (DL.c_fn @DL.gInt (DL.a_cons (DL.c_idx @DL.fIdx (DL.c_var 0) (DL.c_lit (PySem.PyData.int (@OfNat.ofNat @Int (nat_lit 2) (@instOfNat (nat_lit 2)))))) @DL.a_nil)) (DL.c_var 1)))
def c_law_draw_7 : @DL.SS :=
  (DL.c_seti 0 (DL.c_lit (PySem.PyData.int (@OfNat.ofNat @Int (nat_lit 2) (@instOfNat (nat_lit 2))))) (DL.c_bin @DL.bDiv (DL.c_idx @DL.fIdx (DL.c_var 0) (DL.c_lit (PySem.PyData.int (@OfNat.ofNat @Int (nat_lit 2) (@instOfNat (nat_lit 2)))))) (DL.c_var 1)))
def c_law_draw_8 : @DL.SS :=
  (DL.c_ret (DL.c_var 3))
def c_law_draw_9 : @DL.SS :=
  (DL.c_ifS (DL.c_val (DL.c_cmp @DL.bGt (DL.c_idx @DL.fIdx (DL.c_var 0) (DL.c_lit (PySem.PyData.int (@OfNat.ofNat @Int (nat_lit 2) (@instOfNat (nat_lit 2)))))) (DL.c_lit (PySem.PyData.int (@OfNat.ofNat @Int (nat_lit 0) (@instOfNat (nat_lit 0))))))) (DL.c_seq @K22.c_law_draw_6 (DL.c_seq @K22.c_law_draw_7 @K22.c_law_draw_8)) @DL.c_nil)
def c_law_draw_10 : @DL.SS :=
  (DL.c_seti 0 (DL.c_lit (PySem.PyData.int (@OfNat.ofNat @Int (nat_lit 3) (@instOfNat (nat_lit 3))))) (DL.c_bin @DL.bMod (DL.c_fn @DL.gInt (DL.a_cons (DL.c_bin @DL.bAdd (DL.c_bin @DL.bMul (DL.c_idx @DL.fIdx (DL.c_var 0) (DL.c_lit (PySem.PyData.int (@OfNat.ofNat @Int (nat_lit 3) (@instOfNat (nat_lit 3)))))) (DL.c_lit (PySem.PyData.int (@OfNat.ofNat @Int (nat_lit 69621) (@instOfNat (nat_lit 69621)))))) (DL.c_lit (PySem.PyData.int (@OfNat.ofNat @Int (nat_lit 7) (@instOfNat (nat_lit 7)))))) @DL.a_nil)) (DL.c_lit (PySem.PyData.int (@OfNat.ofNat @Int (nat_lit 2147483629) (@instOfNat (nat_lit 2147483629)))))))
def c_law_draw_11 : @DL.SS :=
  (DL.c_ret (DL.c_bin @DL.bMod (DL.c_fn @DL.gInt (DL.a_cons (DL.c_bin @DL.bDiv (DL.c_idx @DL.fIdx (DL.c_var 0) (DL.c_lit (PySem.PyData.int (@OfNat.ofNat @Int (nat_lit 3) (@instOfNat (nat_lit 3)))))) (DL.c_lit (PySem.PyData.int (@OfNat.ofNat @Int (nat_lit 11) (@instOfNat (nat_lit 11)))))) @DL.a_nil)) (DL.c_var 1)))
def c_law_draw : @DL.SS :=
  (DL.c_seq @K22.c_law_draw_5 (DL.c_seq @K22.c_law_draw_9 (DL.c_seq @K22.c_law_draw_10 @K22.c_law_draw_11)))
theorem c_law_draw_eq : cSts (cm 40) cs_law_draw 40 (defBody (top 25)) = some c_law_draw := by kernel_rfl
def F_law_draw : DL.Spec := fnW 2 4 c_law_draw
def N_law_pick : List Str := ["draws", "row"]
def P_law_pick : List Str := ["draws", "row"]
abbrev sc_law_pick : Scope := defScope (top 26)
def fns_law_pick : List (Str × List Bool × DL.Spec) := [("_law_draw", [true, false], F_law_draw)]
def keys_law_pick : List (Str × DL.Spec) := []
def news_law_pick : List (Str × DL.Spec) := []
def kons_law_pick : List (Str × Dat) := []
def blts_law_pick : List Str := ["len"]
abbrev cs_law_pick : Cs := ⟨N_law_pick, sc_law_pick, fun _ => true, kons_law_pick, blts_law_pick, fns_law_pick, keys_law_pick, news_law_pick⟩
def c_law_pick : @DL.SS :=
  (DL.c_ret (DL.c_idx @DL.fIdx (DL.c_var 1) (DL.c_callR @K22.F_law_draw [@Bool.true, @Bool.false] (DL.a_cons (DL.c_var 0) (DL.a_cons (DL.c_fn @DL.gLen (DL.a_cons (DL.c_var 1) @DL.a_nil)) @DL.a_nil)))))
theorem c_law_pick_eq : cSts (cm 40) cs_law_pick 40 (defBody (top 26)) = some c_law_pick := by kernel_rfl
def F_law_pick : DL.Spec := fnW 2 2 c_law_pick
def N_law_same : List Str := ["actual", "expected", "k"]
def P_law_same : List Str := ["actual", "expected"]
abbrev sc_law_same : Scope := defScope (top 27)
def fns_law_same (G : DL.Spec) : List (Str × List Bool × DL.Spec) := [("_law_same", [], G)]
def keys_law_same : List (Str × DL.Spec) := []
def news_law_same : List (Str × DL.Spec) := []
def kons_law_same : List (Str × Dat) := []
def blts_law_same : List Str := ["len", "isinstance", "list", "tuple", "range", "int", "str", "bool"]
abbrev cs_law_same (G : DL.Spec) : Cs := ⟨N_law_same, sc_law_same, fun _ => true, kons_law_same, blts_law_same, fns_law_same G, keys_law_same, news_law_same⟩
def c_law_same_1 : ((x0 : @DL.Spec) → @DL.SS) :=
  (fun (x0 : @DL.Spec) => (DL.c_ifS (DL.c_or (DL.c_val (DL.c_cmp @DL.bNe (DL.c_isi "tuple" (DL.c_var 0)) (DL.c_isi "tuple" (DL.c_var 1)))) (DL.c_val (DL.c_cmp @DL.bNe (DL.c_isi "list" (DL.c_var 0)) (DL.c_isi "list" (DL.c_var 1))))) (DL.c_ret (DL.c_lit (PySem.PyData.bool @Bool.false))) @DL.c_nil))
def c_law_same_2 : ((x0 : @DL.Spec) → @DL.SS) :=
  (fun (x0 : @DL.Spec) => (DL.c_ifS (DL.c_val (DL.c_cmp @DL.bNe (DL.c_fn @DL.gLen (DL.a_cons (DL.c_var 0) @DL.a_nil)) (DL.c_fn @DL.gLen (DL.a_cons (DL.c_var 1) @DL.a_nil)))) (DL.c_ret (DL.c_lit (PySem.PyData.bool @Bool.false))) @DL.c_nil))
def c_law_same_3 : ((x0 : @DL.Spec) → @DL.SS) :=
  (fun (x0 : @DL.Spec) => (DL.c_ret (DL.c_cmp @DL.bEq (DL.c_fn @DL.gLen (DL.a_cons (DL.c_lc [2] (DL.w_rng1 (DL.c_fn @DL.gLen (DL.a_cons (DL.c_var 1) @DL.a_nil))) (DL.g_name 2) (DL.c_not (DL.c_val (DL.c_call x0 (DL.a_cons (DL.c_idx @DL.fIdx (DL.c_var 0) (DL.c_var 2)) (DL.a_cons (DL.c_idx @DL.fIdx (DL.c_var 1) (DL.c_var 2)) @DL.a_nil))))) (DL.c_var 2)) @DL.a_nil)) (DL.c_lit (PySem.PyData.int (@OfNat.ofNat @Int (nat_lit 0) (@instOfNat (nat_lit 0))))))))
def c_law_same_4 : ((x0 : @DL.Spec) → @DL.SS) :=
  (fun (x0 : @DL.Spec) => (DL.c_ifS (DL.c_or (DL.c_val (DL.c_isi "tuple" (DL.c_var 1))) (DL.c_val (DL.c_isi "list" (DL.c_var 1)))) (DL.c_seq (K22.c_law_same_1 x0) (DL.c_seq (K22.c_law_same_2 x0) (K22.c_law_same_3 x0))) @DL.c_nil))
def c_law_same_5 : ((x0 : @DL.Spec) → @DL.SS) :=
  (fun (x0 : @DL.Spec) => (DL.c_ifS (DL.c_or (DL.c_val (DL.c_isi "bool" (DL.c_var 1))) (DL.c_val (DL.c_isi "bool" (DL.c_var 0)))) (DL.c_ret (DL.c_andV (DL.c_isi "bool" (DL.c_var 1)) (DL.c_andV (DL.c_isi "bool" (DL.c_var 0)) (DL.c_cmp @DL.bEq (DL.c_var 0) (DL.c_var 1))))) @DL.c_nil))
def c_law_same_6 : ((x0 : @DL.Spec) → @DL.SS) :=
  (fun (x0 : @DL.Spec) => (DL.c_ifS (DL.c_or (DL.c_val (DL.c_cmp @DL.bIs (DL.c_var 1) (DL.c_lit @PySem.PyData.none))) (DL.c_val (DL.c_cmp @DL.bIs (DL.c_var 0) (DL.c_lit @PySem.PyData.none)))) (DL.c_ret (DL.c_andV (DL.c_cmp @DL.bIs (DL.c_var 1) (DL.c_lit @PySem.PyData.none)) (DL.c_cmp @DL.bIs (DL.c_var 0) (DL.c_lit @PySem.PyData.none)))) @DL.c_nil))
def c_law_same_7 : ((x0 : @DL.Spec) → @DL.SS) :=
  (fun (x0 : @DL.Spec) => (DL.c_ifS (DL.c_or (DL.c_val (DL.c_isi "str" (DL.c_var 1))) (DL.c_val (DL.c_isi "str" (DL.c_var 0)))) (DL.c_ret (DL.c_andV (DL.c_isi "str" (DL.c_var 1)) (DL.c_andV (DL.c_isi "str" (DL.c_var 0)) (DL.c_cmp @DL.bEq (DL.c_var 0) (DL.c_var 1))))) @DL.c_nil))
def c_law_same_8 : ((x0 : @DL.Spec) → @DL.SS) :=
  (fun (x0 : @DL.Spec) => (DL.c_ret (DL.c_andV (DL.c_isi "int" (DL.c_var 0)) (DL.c_andV (DL.c_isi "int" (DL.c_var 1)) (DL.c_cmp @DL.bEq (DL.c_var 0) (DL.c_var 1))))))
def c_law_same : ((x0 : @DL.Spec) → @DL.SS) :=
  (fun (x0 : @DL.Spec) => (DL.c_seq (K22.c_law_same_4 x0) (DL.c_seq (K22.c_law_same_5 x0) (DL.c_seq (K22.c_law_same_6 x0) (DL.c_seq (K22.c_law_same_7 x0) (K22.c_law_same_8 x0))))))
theorem c_law_same_eq (G : DL.Spec) : cSts (cm 40) (cs_law_same G) 40 (defBody (top 27)) = some (c_law_same G) := by kernel_rfl
def F_law_same' (G : DL.Spec) : DL.Spec := fnW 2 3 (c_law_same G)
def F_law_same : DL.Spec := recW F_law_same'
def N_law_prefix : List Str := ["draws", "bits", "told", "size"]
def P_law_prefix : List Str := ["draws", "bits"]
abbrev sc_law_prefix : Scope := defScope (top 28)
def fns_law_prefix : List (Str × List Bool × DL.Spec) := [("_law_draw", [true, false], F_law_draw)]
def keys_law_prefix : List (Str × DL.Spec) := []
def news_law_prefix : List (Str × DL.Spec) := []
def kons_law_prefix : List (Str × Dat) := []
def blts_law_prefix : List Str := []
abbrev cs_law_prefix : Cs := ⟨N_law_prefix, sc_law_prefix, fun _ => true, kons_law_prefix, blts_law_prefix, fns_law_prefix, keys_law_prefix, news_law_prefix⟩
def c_law_prefix_1 : @DL.SS :=
  (DL.c_set 2 (DL.c_callR @K22.F_law_draw [@Bool.true, @Bool.false] (DL.a_cons (DL.c_var 0) (DL.a_cons (DL.c_bin @DL.bAdd (DL.c_var 1) (DL.c_lit (PySem.PyData.int (@OfNat.ofNat @Int (nat_lit 1) (@instOfNat (nat_lit 1)))))) @DL.a_nil))))
def c_law_prefix_2 : @DL.SS :=
  (DL.c_set 3 (DL.c_bin @DL.bShl (DL.c_lit (PySem.PyData.int (@OfNat.ofNat @Int (nat_lit 1) (@instOfNat (nat_lit 1))))) (DL.c_bin @DL.bSub (DL.c_var 1) (DL.c_var 2))))
def c_law_prefix_3 : @DL.SS :=
  (DL.c_ret (DL.c_tup (DL.a_cons (DL.c_bin @DL.bMul (DL.c_callR @K22.F_law_draw [@Bool.true, @Bool.false] (DL.a_cons (DL.c_var 0) (DL.a_cons (DL.c_bin @DL.bShl (DL.c_lit (PySem.PyData.int (@OfNat.ofNat @Int (nat_lit 1) (@instOfNat (nat_lit 1))))) (DL.c_var 2)) @DL.a_nil))) (DL.c_var 3)) (DL.a_cons (DL.c_var 2) @DL.a_nil))))
def c_law_prefix : @DL.SS :=
  (DL.c_seq @K22.c_law_prefix_1 (DL.c_seq @K22.c_law_prefix_2 @K22.c_law_prefix_3))
theorem c_law_prefix_eq : cSts (cm 40) cs_law_prefix 40 (defBody (top 28)) = some c_law_prefix := by kernel_rfl
def F_law_prefix : DL.Spec := fnW 2 4 c_law_prefix
def N_law_ends : List Str := ["bits", "prefix"]
def P_law_ends : List Str := ["bits", "prefix"]
abbrev sc_law_ends : Scope := defScope (top 29)
def fns_law_ends : List (Str × List Bool × DL.Spec) := []
def keys_law_ends : List (Str × DL.Spec) := []
def news_law_ends : List (Str × DL.Spec) := []
def kons_law_ends : List (Str × Dat) := []
def blts_law_ends : List Str := []
abbrev cs_law_ends : Cs := ⟨N_law_ends, sc_law_ends, fun _ => true, kons_law_ends, blts_law_ends, fns_law_ends, keys_law_ends, news_law_ends⟩
def c_law_ends : @DL.SS :=
  (DL.c_ret (DL.c_tup (DL.a_cons (DL.c_idx @DL.fIdx (DL.c_var 1) (DL.c_lit (PySem.PyData.int (@OfNat.ofNat @Int (nat_lit 0) (@instOfNat (nat_lit 0)))))) (DL.a_cons (DL.c_bin @DL.bSub (DL.c_bin @DL.bAdd (DL.c_idx @DL.fIdx (DL.c_var 1) (DL.c_lit (PySem.PyData.int (@OfNat.ofNat @Int (nat_lit 0) (@instOfNat (nat_lit 0)))))) (DL.c_bin @DL.bShl (DL.c_lit (PySem.PyData.int (@OfNat.ofNat @Int (nat_lit 1) (@instOfNat (nat_lit 1))))) (DL.c_bin @DL.bSub (DL.c_var 0) (DL.c_idx @DL.fIdx (DL.c_var 1) (DL.c_lit (PySem.PyData.int (@OfNat.ofNat @Int (nat_lit 1) (@instOfNat (nat_lit 1))))))))) (DL.c_lit (PySem.PyData.int (@OfNat.ofNat @Int (nat_lit 1) (@instOfNat (nat_lit 1)))))) @DL.a_nil))))
theorem c_law_ends_eq : cSts (cm 40) cs_law_ends 40 (defBody (top 29)) = some c_law_ends := by kernel_rfl
def F_law_ends : DL.Spec := fnW 2 2 c_law_ends
def N_law_runs : List Str := ["bits", "prefixes", "runs", "low", "high", "prefix"]
def P_law_runs : List Str := ["bits", "prefixes"]
abbrev sc_law_runs : Scope := defScope (top 30)
def fns_law_runs : List (Str × List Bool × DL.Spec) := [("_law_ends", [], F_law_ends)]
def keys_law_runs : List (Str × DL.Spec) := []
def news_law_runs : List (Str × DL.Spec) := []
def kons_law_runs : List (Str × Dat) := []
def blts_law_runs : List Str := ["len", "sorted", "max"]
abbrev cs_law_runs : Cs := ⟨N_law_runs, sc_law_runs, fun _ => true, kons_law_runs, blts_law_runs, fns_law_runs, keys_law_runs, news_law_runs⟩
def c_law_runs_1 : @DL.SS :=
  (DL.c_set 2 (DL.c_lst @DL.a_nil))
def c_law_runs_b1 : @DL.SS :=
  (DL.c_ifS (DL.c_and (DL.c_val (DL.c_cmp @DL.bGt (DL.c_fn @DL.gLen (DL.a_cons (DL.c_var 2) @DL.a_nil)) (DL.c_lit (PySem.PyData.int (@OfNat.ofNat @Int (nat_lit 0) (@instOfNat (nat_lit 0))))))) (DL.c_val (DL.c_cmp @DL.bLe (DL.c_var 3) (DL.c_bin @DL.bAdd (DL.c_idx @DL.fIdx (DL.c_idx @DL.fIdx (DL.c_var 2) (DL.c_neg (DL.c_lit (PySem.PyData.int (@OfNat.ofNat @Int (nat_lit 1) (@instOfNat (nat_lit 1))))))) (DL.c_lit (PySem.PyData.int (@OfNat.ofNat @Int (nat_lit 1) (@instOfNat (nat_lit 1)))))) (DL.c_lit (PySem.PyData.int (@OfNat.ofNat @Int (nat_lit 1) (@instOfNat (nat_lit 1))))))))) (DL.c_seti 2 (DL.c_neg (DL.c_lit (PySem.PyData.int (@OfNat.ofNat @Int (nat_lit 1) (@instOfNat (nat_lit 1)))))) (DL.c_tup (DL.a_cons (DL.c_idx @DL.fIdx (DL.c_idx @DL.fIdx (DL.c_var 2) (DL.c_neg (DL.c_lit (PySem.PyData.int (@OfNat.ofNat @Int (nat_lit 1) (@instOfNat (nat_lit 1))))))) (DL.c_lit (PySem.PyData.int (@OfNat.ofNat @Int (nat_lit 0) (@instOfNat (nat_lit 0)))))) (DL.a_cons (DL.c_fn @DL.gMax (DL.a_cons (DL.c_idx @DL.fIdx (DL.c_idx @DL.fIdx (DL.c_var 2) (DL.c_neg (DL.c_lit (PySem.PyData.int (@OfNat.ofNat @Int (nat_lit 1) (@instOfNat (nat_lit 1))))))) (DL.c_lit (PySem.PyData.int (@OfNat.ofNat @Int (nat_lit 1) (@instOfNat (nat_lit 1)))))) (DL.a_cons (DL.c_var 4) @DL.a_nil))) @DL.a_nil)))) (DL.c_app 2 (DL.c_tup (DL.a_cons (DL.c_var 3) (DL.a_cons (DL.c_var 4) @DL.a_nil)))))
def c_law_runs_2 : @DL.SS :=
  (DL.c_for (DL.w_seq (DL.c_fn @DL.gSorted (DL.a_cons (DL.c_lc [5] (DL.w_seq (DL.c_var 1)) (DL.g_name 5) @DL.b_yes (DL.c_call @K22.F_law_ends (DL.a_cons (DL.c_var 0) (DL.a_cons (DL.c_var 5) @DL.a_nil)))) @DL.a_nil))) (DL.g_tup 2 (DL.g_cons (DL.g_name 3) (DL.g_cons (DL.g_name 4) @DL.g_nil))) @K22.c_law_runs_b1)
def c_law_runs_3 : @DL.SS :=
  (DL.c_ret (DL.c_var 2))
def c_law_runs : @DL.SS :=
  (DL.c_seq @K22.c_law_runs_1 (DL.c_seq @K22.c_law_runs_2 @K22.c_law_runs_3))
theorem c_law_runs_eq : cSts (cm 40) cs_law_runs 40 (defBody (top 30)) = some c_law_runs := by kernel_rfl
def F_law_runs : DL.Spec := fnW 2 6 c_law_runs
def N_law_turned : List Str := ["draws", "rows", "left", "out", "turn"]
def P_law_turned : List Str := ["draws", "rows"]
abbrev sc_law_turned : Scope := defScope (top 31)
def fns_law_turned : List (Str × List Bool × DL.Spec) := [("_law_draw", [true, false], F_law_draw)]
def keys_law_turned : List (Str × DL.Spec) := []
def news_law_turned : List (Str × DL.Spec) := []
def kons_law_turned : List (Str × Dat) := []
def blts_law_turned : List Str := ["len", "list", "tuple", "range"]
abbrev cs_law_turned : Cs := ⟨N_law_turned, sc_law_turned, fun _ => true, kons_law_turned, blts_law_turned, fns_law_turned, keys_law_turned, news_law_turned⟩
def c_law_turned_1 : @DL.SS :=
  (DL.c_par 2 3 (DL.c_fn @DL.gList (DL.a_cons (DL.c_var 1) @DL.a_nil)) (DL.c_lst @DL.a_nil))
def c_law_turned_b1 : @DL.SS :=
  (DL.c_app 3 (DL.c_popA 2 (DL.c_callR @K22.F_law_draw [@Bool.true, @Bool.false] (DL.a_cons (DL.c_var 0) (DL.a_cons (DL.c_fn @DL.gLen (DL.a_cons (DL.c_var 2) @DL.a_nil)) @DL.a_nil)))))
def c_law_turned_2 : @DL.SS :=
  (DL.c_for (DL.w_rng1 (DL.c_fn @DL.gLen (DL.a_cons (DL.c_var 1) @DL.a_nil))) (DL.g_name 4) @K22.c_law_turned_b1)
def c_law_turned_3 : @DL.SS :=
  (DL.c_ret (DL.c_fn @DL.gTuple (DL.a_cons (DL.c_var 3) @DL.a_nil)))
def c_law_turned : @DL.SS :=
  (DL.c_seq @K22.c_law_turned_1 (DL.c_seq @K22.c_law_turned_2 @K22.c_law_turned_3))
theorem c_law_turned_eq : cSts (cm 40) cs_law_turned 40 (defBody (top 31)) = some c_law_turned := by kernel_rfl
def F_law_turned : DL.Spec := fnW 2 5 c_law_turned
def N_law : List Str := ["script", "draws", "turn", "bits", "top", "low", "high", "found", "apart", "ends", "prefix", "one", "value", "told", "wide", "later", "both", "prefixes", "k", "joined", "due", "begin", "end", "more", "fit", "signs"]
def P_law : List Str := ["script"]
abbrev sc_law : Scope := defScope (top 32)
def fns_law : List (Str × List Bool × DL.Spec) := [("_law_draw", [true, false], F_law_draw), ("_law_runs", [], F_law_runs), ("prefixes_of", [], F_prefixes_of), ("apart_by", [], F_apart_by), ("interval_of", [], F_interval_of), ("_law_same", [], F_law_same), ("joined_prefixes", [], F_joined_prefixes), ("longest_fit", [], F_longest_fit), ("prefix_signs", [], F_prefix_signs), ("are_apart", [], F_are_apart), ("_law_prefix", [true, false], F_law_prefix), ("_law_ends", [], F_law_ends), ("_law_turned", [true, false], F_law_turned), ("is_prefix", [], F_is_prefix)]
def keys_law : List (Str × DL.Spec) := []
def news_law : List (Str × DL.Spec) := [("_law_draws", F_law_draws)]
def kons_law : List (Str × Dat) := []
def blts_law : List Str := ["len", "tuple", "range", "str", "max"]
abbrev cs_law : Cs := ⟨N_law, sc_law, fun _ => true, kons_law, blts_law, fns_law, keys_law, news_law⟩
def c_law_1 : @DL.SS :=
  (DL.c_set 1 (DL.c_callN @K22.F_law_draws (DL.a_cons (DL.c_var 0) @DL.a_nil)))
def c_law_2 : @DL.SS :=
  (DL.c_set 3 (DL.c_bin @DL.bAdd (DL.c_lit (PySem.PyData.int (@OfNat.ofNat @Int (nat_lit 1) (@instOfNat (nat_lit 1))))) (DL.c_callR @K22.F_law_draw [@Bool.true, @Bool.false] (DL.a_cons (DL.c_var 1) (DL.a_cons (DL.c_lit (PySem.PyData.int (@OfNat.ofNat @Int (nat_lit 12) (@instOfNat (nat_lit 12))))) @DL.a_nil)))))
def c_law_3 : @DL.SS :=
  (DL.c_set 4 (DL.c_bin @DL.bSub (DL.c_bin @DL.bShl (DL.c_lit (PySem.PyData.int (@OfNat.ofNat @Int (nat_lit 1) (@instOfNat (nat_lit 1))))) (DL.c_var 3)) (DL.c_lit (PySem.PyData.int (@OfNat.ofNat @Int (nat_lit 1) (@instOfNat (nat_lit 1)))))))
def c_law_4 : @DL.SS :=
  (DL.c_set 5 (DL.c_callR @K22.F_law_draw [@Bool.true, @Bool.false] (DL.a_cons (DL.c_var 1) (DL.a_cons (DL.c_bin @DL.bAdd (DL.c_var 4) (DL.c_lit (PySem.PyData.int (@OfNat.ofNat @Int (nat_lit 1) (@instOfNat (nat_lit 1)))))) @DL.a_nil))))
def c_law_5 : @DL.SS :=
  (DL.c_set 6 (DL.c_bin @DL.bAdd (DL.c_var 5) (DL.c_callR @K22.F_law_draw [@Bool.true, @Bool.false] (DL.a_cons (DL.c_var 1) (DL.a_cons (DL.c_bin @DL.bAdd (DL.c_bin @DL.bSub (DL.c_var 4) (DL.c_var 5)) (DL.c_lit (PySem.PyData.int (@OfNat.ofNat @Int (nat_lit 1) (@instOfNat (nat_lit 1)))))) @DL.a_nil)))))
def c_law_6 : @DL.SS :=
  (DL.c_par 7 8 (DL.c_call @K22.F_prefixes_of (DL.a_cons (DL.c_var 3) (DL.a_cons (DL.c_var 5) (DL.a_cons (DL.c_var 6) @DL.a_nil)))) (DL.c_call @K22.F_apart_by (DL.a_cons (DL.c_var 3) (DL.a_cons (DL.c_var 5) (DL.a_cons (DL.c_var 6) @DL.a_nil)))))
def c_law_7 : @DL.SS :=
  (DL.c_set 9 (DL.c_lc [10] (DL.w_seq (DL.c_var 7)) (DL.g_name 10) @DL.b_yes (DL.c_call @K22.F_interval_of (DL.a_cons (DL.c_var 3) (DL.a_cons (DL.c_var 10) @DL.a_nil)))))
def c_law_8 : @DL.SS :=
  (DL.c_ifS (DL.c_or (DL.c_val (DL.c_cmp @DL.bNe (DL.c_var 9) (DL.c_lc [10] (DL.w_seq (DL.c_var 7)) (DL.g_name 10) @DL.b_yes (DL.c_call @K22.F_law_ends (DL.a_cons (DL.c_var 3) (DL.a_cons (DL.c_var 10) @DL.a_nil)))))) (DL.c_or (DL.c_val (DL.c_cmp @DL.bNe (DL.c_idx @DL.fIdx (DL.c_idx @DL.fIdx (DL.c_var 9) (DL.c_lit (PySem.PyData.int (@OfNat.ofNat @Int (nat_lit 0) (@instOfNat (nat_lit 0)))))) (DL.c_lit (PySem.PyData.int (@OfNat.ofNat @Int (nat_lit 0) (@instOfNat (nat_lit 0)))))) (DL.c_var 5))) (DL.c_or (DL.c_val (DL.c_cmp @DL.bNe (DL.c_idx @DL.fIdx (DL.c_idx @DL.fIdx (DL.c_var 9) (DL.c_neg (DL.c_lit (PySem.PyData.int (@OfNat.ofNat @Int (nat_lit 1) (@instOfNat (nat_lit 1))))))) (DL.c_lit (PySem.PyData.int (@OfNat.ofNat @Int (nat_lit 1) (@instOfNat (nat_lit 1)))))) (DL.c_var 6))) (DL.c_val (DL.c_cmp @DL.bNe (DL.c_lc [11] (DL.w_seq (DL.c_slice @DL.fSl (DL.c_var 9) @DL.o_no (DL.o_some (DL.c_neg (DL.c_lit (PySem.PyData.int (@OfNat.ofNat @Int (nat_lit 1) (@instOfNat (nat_lit 1))))))))) (DL.g_name 11) @DL.b_yes (DL.c_bin @DL.bAdd (DL.c_idx @DL.fIdx (DL.c_var 11) (DL.c_lit (PySem.PyData.int (@OfNat.ofNat @Int (nat_lit 1) (@instOfNat (nat_lit 1)))))) (DL.c_lit (PySem.PyData.int (@OfNat.ofNat @Int (nat_lit 1) (@instOfNat (nat_lit 1))))))) (DL.c_lc [11] (DL.w_seq (DL.c_slice @DL.fSl (DL.c_var 9) (DL.o_some (DL.c_lit (PySem.PyData.int (@OfNat.ofNat @Int (nat_lit 1) (@instOfNat (nat_lit 1)))))) @DL.o_no)) (DL.g_name 11) @DL.b_yes (DL.c_idx @DL.fIdx (DL.c_var 11) (DL.c_lit (PySem.PyData.int (@OfNat.ofNat @Int (nat_lit 0) (@instOfNat (nat_lit 0)))))))))))) (DL.c_ret (DL.c_lit (PySem.PyData.bool @Bool.false))) @DL.c_nil)
def c_law_9 : @DL.SS :=
  (DL.c_ifS (DL.c_or (DL.c_not (DL.c_val (DL.c_call @K22.F_law_same (DL.a_cons (DL.c_var 8) (DL.a_cons (DL.c_fn @DL.gTuple (DL.a_cons (DL.c_lc [11] (DL.w_seq (DL.c_var 9)) (DL.g_name 11) @DL.b_yes (DL.c_idx @DL.fIdx (DL.c_var 11) (DL.c_lit (PySem.PyData.int (@OfNat.ofNat @Int (nat_lit 0) (@instOfNat (nat_lit 0))))))) @DL.a_nil)) @DL.a_nil))))) (DL.c_val (DL.c_cmp @DL.bIsNot (DL.c_call @K22.F_are_apart (DL.a_cons (DL.c_var 3) (DL.a_cons (DL.c_var 5) (DL.a_cons (DL.c_var 6) (DL.a_cons (DL.c_var 8) @DL.a_nil))))) (DL.c_lit (PySem.PyData.bool @Bool.true))))) (DL.c_ret (DL.c_lit (PySem.PyData.bool @Bool.false))) @DL.c_nil)
def c_law_10 : @DL.SS :=
  (DL.c_ifS (DL.c_or (DL.c_val (DL.c_cmp @DL.bGt (DL.c_fn @DL.gLen (DL.a_cons (DL.c_var 7) @DL.a_nil)) (DL.c_fn @DL.gMax (DL.a_cons (DL.c_lit (PySem.PyData.int (@OfNat.ofNat @Int (nat_lit 1) (@instOfNat (nat_lit 1))))) (DL.a_cons (DL.c_bin @DL.bSub (DL.c_bin @DL.bMul (DL.c_lit (PySem.PyData.int (@OfNat.ofNat @Int (nat_lit 2) (@instOfNat (nat_lit 2))))) (DL.c_var 3)) (DL.c_lit (PySem.PyData.int (@OfNat.ofNat @Int (nat_lit 2) (@instOfNat (nat_lit 2)))))) @DL.a_nil))))) (DL.c_val (DL.c_cmp @DL.bGt (DL.c_fn @DL.gLen (DL.a_cons (DL.c_lc [10] (DL.w_seq (DL.c_var 7)) (DL.g_name 10) (DL.c_val (DL.c_cmp @DL.bIsNot (DL.c_call @K22.F_is_prefix (DL.a_cons (DL.c_var 3) (DL.a_cons (DL.c_var 10) @DL.a_nil))) (DL.c_lit (PySem.PyData.bool @Bool.true)))) (DL.c_var 10)) @DL.a_nil)) (DL.c_lit (PySem.PyData.int (@OfNat.ofNat @Int (nat_lit 0) (@instOfNat (nat_lit 0)))))))) (DL.c_ret (DL.c_lit (PySem.PyData.bool @Bool.false))) @DL.c_nil)
def c_law_11 : @DL.SS :=
  (DL.c_set 14 (DL.c_bin @DL.bShl (DL.c_lit (PySem.PyData.int (@OfNat.ofNat @Int (nat_lit 1) (@instOfNat (nat_lit 1))))) (DL.c_bin @DL.bAdd (DL.c_bin @DL.bSub (DL.c_var 3) (DL.c_var 13)) (DL.c_lit (PySem.PyData.int (@OfNat.ofNat @Int (nat_lit 1) (@instOfNat (nat_lit 1))))))))
def c_law_12 : @DL.SS :=
  (DL.c_ifS (DL.c_and (DL.c_val (DL.c_cmp @DL.bGt (DL.c_var 13) (DL.c_lit (PySem.PyData.int (@OfNat.ofNat @Int (nat_lit 0) (@instOfNat (nat_lit 0))))))) (DL.c_and (DL.c_val (DL.c_cmp @DL.bLe (DL.c_var 5) (DL.c_bin @DL.bMul (DL.c_bin @DL.bDiv (DL.c_var 12) (DL.c_var 14)) (DL.c_var 14)))) (DL.c_val (DL.c_cmp @DL.bLe (DL.c_bin @DL.bSub (DL.c_bin @DL.bAdd (DL.c_bin @DL.bMul (DL.c_bin @DL.bDiv (DL.c_var 12) (DL.c_var 14)) (DL.c_var 14)) (DL.c_var 14)) (DL.c_lit (PySem.PyData.int (@OfNat.ofNat @Int (nat_lit 1) (@instOfNat (nat_lit 1)))))) (DL.c_var 6))))) (DL.c_ret (DL.c_lit (PySem.PyData.bool @Bool.false))) @DL.c_nil)
def c_law_13 : @DL.SS :=
  (DL.c_for (DL.w_seq (DL.c_var 7)) (DL.g_tup 2 (DL.g_cons (DL.g_name 12) (DL.g_cons (DL.g_name 13) @DL.g_nil))) (DL.c_seq @K22.c_law_11 @K22.c_law_12))
def c_law_14 : @DL.SS :=
  (DL.c_set 15 (DL.c_bin @DL.bAdd (DL.c_bin @DL.bAdd (DL.c_var 6) (DL.c_lit (PySem.PyData.int (@OfNat.ofNat @Int (nat_lit 1) (@instOfNat (nat_lit 1)))))) (DL.c_callR @K22.F_law_draw [@Bool.true, @Bool.false] (DL.a_cons (DL.c_var 1) (DL.a_cons (DL.c_bin @DL.bSub (DL.c_var 4) (DL.c_var 6)) @DL.a_nil)))))
def c_law_15 : @DL.SS :=
  (DL.c_set 16 (DL.c_call @K22.F_prefixes_of (DL.a_cons (DL.c_var 3) (DL.a_cons (DL.c_var 5) (DL.a_cons (DL.c_var 15) @DL.a_nil)))))
def c_law_16 : @DL.SS :=
  (DL.c_ifS (DL.c_or (DL.c_val (DL.c_cmp @DL.bGt (DL.c_fn @DL.gLen (DL.a_cons (DL.c_var 16) @DL.a_nil)) (DL.c_bin @DL.bAdd (DL.c_fn @DL.gLen (DL.a_cons (DL.c_var 7) @DL.a_nil)) (DL.c_fn @DL.gLen (DL.a_cons (DL.c_call @K22.F_prefixes_of (DL.a_cons (DL.c_var 3) (DL.a_cons (DL.c_bin @DL.bAdd (DL.c_var 6) (DL.c_lit (PySem.PyData.int (@OfNat.ofNat @Int (nat_lit 1) (@instOfNat (nat_lit 1)))))) (DL.a_cons (DL.c_var 15) @DL.a_nil)))) @DL.a_nil))))) (DL.c_not (DL.c_val (DL.c_call @K22.F_law_same (DL.a_cons (DL.c_call @K22.F_joined_prefixes (DL.a_cons (DL.c_var 3) (DL.a_cons (DL.c_bin @DL.bAdd (DL.c_var 7) (DL.c_call @K22.F_prefixes_of (DL.a_cons (DL.c_var 3) (DL.a_cons (DL.c_bin @DL.bAdd (DL.c_var 6) (DL.c_lit (PySem.PyData.int (@OfNat.ofNat @Int (nat_lit 1) (@instOfNat (nat_lit 1)))))) (DL.a_cons (DL.c_var 15) @DL.a_nil))))) @DL.a_nil))) (DL.a_cons (DL.c_var 16) @DL.a_nil)))))) (DL.c_ret (DL.c_lit (PySem.PyData.bool @Bool.false))) @DL.c_nil)
def c_law_17 : @DL.SS :=
  (DL.c_ifS (DL.c_val (DL.c_cmp @DL.bLt (DL.c_var 6) (DL.c_var 4))) (DL.c_seq @K22.c_law_14 (DL.c_seq @K22.c_law_15 @K22.c_law_16)) @DL.c_nil)
def c_law_18 : @DL.SS :=
  (DL.c_ifS (DL.c_not (DL.c_val (DL.c_call @K22.F_law_same (DL.a_cons (DL.c_call @K22.F_prefixes_of (DL.a_cons (DL.c_bin @DL.bAdd (DL.c_var 3) (DL.c_lit (PySem.PyData.int (@OfNat.ofNat @Int (nat_lit 1) (@instOfNat (nat_lit 1)))))) (DL.a_cons (DL.c_bin @DL.bMul (DL.c_lit (PySem.PyData.int (@OfNat.ofNat @Int (nat_lit 2) (@instOfNat (nat_lit 2))))) (DL.c_var 5)) (DL.a_cons (DL.c_bin @DL.bAdd (DL.c_bin @DL.bMul (DL.c_lit (PySem.PyData.int (@OfNat.ofNat @Int (nat_lit 2) (@instOfNat (nat_lit 2))))) (DL.c_var 6)) (DL.c_lit (PySem.PyData.int (@OfNat.ofNat @Int (nat_lit 1) (@instOfNat (nat_lit 1)))))) @DL.a_nil)))) (DL.a_cons (DL.c_fn @DL.gTuple (DL.a_cons (DL.c_lc [12, 13] (DL.w_seq (DL.c_var 7)) (DL.g_tup 2 (DL.g_cons (DL.g_name 12) (DL.g_cons (DL.g_name 13) @DL.g_nil))) @DL.b_yes (DL.c_tup (DL.a_cons (DL.c_bin @DL.bMul (DL.c_lit (PySem.PyData.int (@OfNat.ofNat @Int (nat_lit 2) (@instOfNat (nat_lit 2))))) (DL.c_var 12)) (DL.a_cons (DL.c_var 13) @DL.a_nil)))) @DL.a_nil)) @DL.a_nil))))) (DL.c_ret (DL.c_lit (PySem.PyData.bool @Bool.false))) @DL.c_nil)
def c_law_19 : @DL.SS :=
  (DL.c_ifS (DL.c_or (DL.c_val (DL.c_cmp @DL.bLt (DL.c_var 6) (DL.c_var 4))) (DL.c_val (DL.c_cmp @DL.bGt (DL.c_var 5) (DL.c_lit (PySem.PyData.int (@OfNat.ofNat @Int (nat_lit 0) (@instOfNat (nat_lit 0)))))))) (DL.c_ifS (DL.c_not (DL.c_val (DL.c_call @K22.F_law_same (DL.a_cons (DL.c_call @K22.F_prefixes_of (DL.a_cons (DL.c_bin @DL.bAdd (DL.c_var 3) (DL.c_lit (PySem.PyData.int (@OfNat.ofNat @Int (nat_lit 1) (@instOfNat (nat_lit 1)))))) (DL.a_cons (DL.c_bin @DL.bAdd (DL.c_bin @DL.bAdd (DL.c_var 5) (DL.c_var 4)) (DL.c_lit (PySem.PyData.int (@OfNat.ofNat @Int (nat_lit 1) (@instOfNat (nat_lit 1)))))) (DL.a_cons (DL.c_bin @DL.bAdd (DL.c_bin @DL.bAdd (DL.c_var 6) (DL.c_var 4)) (DL.c_lit (PySem.PyData.int (@OfNat.ofNat @Int (nat_lit 1) (@instOfNat (nat_lit 1)))))) @DL.a_nil)))) (DL.a_cons (DL.c_fn @DL.gTuple (DL.a_cons (DL.c_lc [12, 13] (DL.w_seq (DL.c_var 7)) (DL.g_tup 2 (DL.g_cons (DL.g_name 12) (DL.g_cons (DL.g_name 13) @DL.g_nil))) @DL.b_yes (DL.c_tup (DL.a_cons (DL.c_bin @DL.bAdd (DL.c_bin @DL.bAdd (DL.c_var 12) (DL.c_var 4)) (DL.c_lit (PySem.PyData.int (@OfNat.ofNat @Int (nat_lit 1) (@instOfNat (nat_lit 1)))))) (DL.a_cons (DL.c_bin @DL.bAdd (DL.c_var 13) (DL.c_lit (PySem.PyData.int (@OfNat.ofNat @Int (nat_lit 1) (@instOfNat (nat_lit 1)))))) @DL.a_nil)))) @DL.a_nil)) @DL.a_nil))))) (DL.c_ret (DL.c_lit (PySem.PyData.bool @Bool.false))) @DL.c_nil) @DL.c_nil)
def c_law_20 : @DL.SS :=
  (DL.c_set 17 (DL.c_fn @DL.gTuple (DL.a_cons (DL.c_lc [18] (DL.w_rng1 (DL.c_callR @K22.F_law_draw [@Bool.true, @Bool.false] (DL.a_cons (DL.c_var 1) (DL.a_cons (DL.c_lit (PySem.PyData.int (@OfNat.ofNat @Int (nat_lit 9) (@instOfNat (nat_lit 9))))) @DL.a_nil)))) (DL.g_name 18) @DL.b_yes (DL.c_callR @K22.F_law_prefix [@Bool.true, @Bool.false] (DL.a_cons (DL.c_var 1) (DL.a_cons (DL.c_var 3) @DL.a_nil)))) @DL.a_nil)))
def c_law_21 : @DL.SS :=
  (DL.c_par 19 20 (DL.c_call @K22.F_joined_prefixes (DL.a_cons (DL.c_var 3) (DL.a_cons (DL.c_var 17) @DL.a_nil))) (DL.c_tup @DL.a_nil))
def c_law_b1 : @DL.SS :=
  (DL.c_set 20 (DL.c_bin @DL.bAdd (DL.c_var 20) (DL.c_call @K22.F_prefixes_of (DL.a_cons (DL.c_var 3) (DL.a_cons (DL.c_var 21) (DL.a_cons (DL.c_var 22) @DL.a_nil))))))
def c_law_22 : @DL.SS :=
  (DL.c_for (DL.w_seq (DL.c_call @K22.F_law_runs (DL.a_cons (DL.c_var 3) (DL.a_cons (DL.c_var 17) @DL.a_nil)))) (DL.g_tup 2 (DL.g_cons (DL.g_name 21) (DL.g_cons (DL.g_name 22) @DL.g_nil))) @K22.c_law_b1)
def c_law_23 : @DL.SS :=
  (DL.c_ifS (DL.c_or (DL.c_not (DL.c_val (DL.c_call @K22.F_law_same (DL.a_cons (DL.c_var 19) (DL.a_cons (DL.c_var 20) @DL.a_nil))))) (DL.c_not (DL.c_val (DL.c_call @K22.F_law_same (DL.a_cons (DL.c_call @K22.F_joined_prefixes (DL.a_cons (DL.c_var 3) (DL.a_cons (DL.c_var 19) @DL.a_nil))) (DL.a_cons (DL.c_var 19) @DL.a_nil)))))) (DL.c_ret (DL.c_lit (PySem.PyData.bool @Bool.false))) @DL.c_nil)
def c_law_24 : @DL.SS :=
  (DL.c_ifS (DL.c_or (DL.c_not (DL.c_val (DL.c_call @K22.F_law_same (DL.a_cons (DL.c_call @K22.F_joined_prefixes (DL.a_cons (DL.c_var 3) (DL.a_cons (DL.c_callR @K22.F_law_turned [@Bool.true, @Bool.false] (DL.a_cons (DL.c_var 1) (DL.a_cons (DL.c_var 17) @DL.a_nil))) @DL.a_nil))) (DL.a_cons (DL.c_var 19) @DL.a_nil))))) (DL.c_not (DL.c_val (DL.c_call @K22.F_law_same (DL.a_cons (DL.c_call @K22.F_joined_prefixes (DL.a_cons (DL.c_var 3) (DL.a_cons (DL.c_bin @DL.bAdd (DL.c_var 17) (DL.c_var 17)) @DL.a_nil))) (DL.a_cons (DL.c_var 19) @DL.a_nil)))))) (DL.c_ret (DL.c_lit (PySem.PyData.bool @Bool.false))) @DL.c_nil)
def c_law_25 : @DL.SS :=
  (DL.c_set 12 (DL.c_callR @K22.F_law_draw [@Bool.true, @Bool.false] (DL.a_cons (DL.c_var 1) (DL.a_cons (DL.c_bin @DL.bAdd (DL.c_var 4) (DL.c_lit (PySem.PyData.int (@OfNat.ofNat @Int (nat_lit 1) (@instOfNat (nat_lit 1)))))) @DL.a_nil))))
def c_law_26 : @DL.SS :=
  (DL.c_set 24 (DL.c_lc [10] (DL.w_seq (DL.c_var 17)) (DL.g_name 10) (DL.c_val (DL.c_chain (DL.c_idx @DL.fIdx (DL.c_call @K22.F_law_ends (DL.a_cons (DL.c_var 3) (DL.a_cons (DL.c_var 10) @DL.a_nil))) (DL.c_lit (PySem.PyData.int (@OfNat.ofNat @Int (nat_lit 0) (@instOfNat (nat_lit 0)))))) (DL.q_cons @DL.bLe (DL.c_var 12) (DL.q_one @DL.bLe (DL.c_idx @DL.fIdx (DL.c_call @K22.F_law_ends (DL.a_cons (DL.c_var 3) (DL.a_cons (DL.c_var 10) @DL.a_nil))) (DL.c_lit (PySem.PyData.int (@OfNat.ofNat @Int (nat_lit 1) (@instOfNat (nat_lit 1)))))))))) (DL.c_var 10)))
def c_law_27 : @DL.SS :=
  (DL.c_set 13 (DL.c_call @K22.F_longest_fit (DL.a_cons (DL.c_var 3) (DL.a_cons (DL.c_var 17) (DL.a_cons (DL.c_var 12) @DL.a_nil)))))
def c_law_28 : @DL.SS :=
  (DL.c_ifS (DL.c_or (DL.c_val (DL.c_cmp @DL.bNe (DL.c_cmp @DL.bIs (DL.c_var 13) (DL.c_lit @PySem.PyData.none)) (DL.c_cmp @DL.bEq (DL.c_fn @DL.gLen (DL.a_cons (DL.c_var 24) @DL.a_nil)) (DL.c_lit (PySem.PyData.int (@OfNat.ofNat @Int (nat_lit 0) (@instOfNat (nat_lit 0)))))))) (DL.c_and (DL.c_val (DL.c_cmp @DL.bIsNot (DL.c_var 13) (DL.c_lit @PySem.PyData.none))) (DL.c_or (DL.c_val (DL.c_cmp @DL.bNotIn (DL.c_var 13) (DL.c_var 24))) (DL.c_val (DL.c_cmp @DL.bNe (DL.c_idx @DL.fIdx (DL.c_var 13) (DL.c_lit (PySem.PyData.int (@OfNat.ofNat @Int (nat_lit 1) (@instOfNat (nat_lit 1)))))) (DL.c_fn @DL.gMax (DL.a_cons (DL.c_lc [10] (DL.w_seq (DL.c_var 24)) (DL.g_name 10) @DL.b_yes (DL.c_idx @DL.fIdx (DL.c_var 10) (DL.c_lit (PySem.PyData.int (@OfNat.ofNat @Int (nat_lit 1) (@instOfNat (nat_lit 1))))))) @DL.a_nil))))))) (DL.c_ret (DL.c_lit (PySem.PyData.bool @Bool.false))) @DL.c_nil)
def c_law_29 : @DL.SS :=
  (DL.c_ifS (DL.c_or (DL.c_not (DL.c_val (DL.c_call @K22.F_law_same (DL.a_cons (DL.c_call @K22.F_longest_fit (DL.a_cons (DL.c_var 3) (DL.a_cons (DL.c_rev (DL.c_var 17)) (DL.a_cons (DL.c_var 12) @DL.a_nil)))) (DL.a_cons (DL.c_var 13) @DL.a_nil))))) (DL.c_val (DL.c_cmp @DL.bNe (DL.c_cmp @DL.bIs (DL.c_call @K22.F_longest_fit (DL.a_cons (DL.c_var 3) (DL.a_cons (DL.c_var 19) (DL.a_cons (DL.c_var 12) @DL.a_nil)))) (DL.c_lit @PySem.PyData.none)) (DL.c_cmp @DL.bIs (DL.c_var 13) (DL.c_lit @PySem.PyData.none))))) (DL.c_ret (DL.c_lit (PySem.PyData.bool @Bool.false))) @DL.c_nil)
def c_law_30 : @DL.SS :=
  (DL.c_for (DL.w_rng1 (DL.c_lit (PySem.PyData.int (@OfNat.ofNat @Int (nat_lit 6) (@instOfNat (nat_lit 6)))))) (DL.g_name 23) (DL.c_seq @K22.c_law_25 (DL.c_seq @K22.c_law_26 (DL.c_seq @K22.c_law_27 (DL.c_seq @K22.c_law_28 @K22.c_law_29)))))
def c_law_31 : @DL.SS :=
  (DL.c_set 25 (DL.c_call @K22.F_prefix_signs (DL.a_cons (DL.c_var 3) (DL.a_cons (DL.c_var 10) @DL.a_nil))))
def c_law_32 : @DL.SS :=
  (DL.c_set 20 (DL.c_bin @DL.bAdd (DL.c_meth @DL.mJoin (DL.c_lit (PySem.PyData.str (PySem.Str.ofString ""))) (DL.a_cons (DL.c_lc [18] (DL.w_rng1 (DL.c_idx @DL.fIdx (DL.c_var 10) (DL.c_lit (PySem.PyData.int (@OfNat.ofNat @Int (nat_lit 1) (@instOfNat (nat_lit 1))))))) (DL.g_name 18) @DL.b_yes (DL.c_fn @DL.gStr (DL.a_cons (DL.c_bin @DL.bMod (DL.c_bin @DL.bDiv (DL.c_idx @DL.fIdx (DL.c_var 10) (DL.c_lit (PySem.PyData.int (@OfNat.ofNat @Int (nat_lit 0) (@instOfNat (nat_lit 0)))))) (DL.c_bin @DL.bShl (DL.c_lit (PySem.PyData.int (@OfNat.ofNat @Int (nat_lit 1) (@instOfNat (nat_lit 1))))) (DL.c_bin @DL.bSub (DL.c_bin @DL.bSub (DL.c_var 3) (DL.c_lit (PySem.PyData.int (@OfNat.ofNat @Int (nat_lit 1) (@instOfNat (nat_lit 1)))))) (DL.c_var 18)))) (DL.c_lit (PySem.PyData.int (@OfNat.ofNat @Int (nat_lit 2) (@instOfNat (nat_lit 2)))))) @DL.a_nil))) @DL.a_nil)) (DL.c_bin @DL.bMul (DL.c_lit (PySem.PyData.str (PySem.Str.ofString "*"))) (DL.c_bin @DL.bSub (DL.c_var 3) (DL.c_idx @DL.fIdx (DL.c_var 10) (DL.c_lit (PySem.PyData.int (@OfNat.ofNat @Int (nat_lit 1) (@instOfNat (nat_lit 1))))))))))
def c_law_33 : @DL.SS :=
  (DL.c_ifS (DL.c_or (DL.c_val (DL.c_cmp @DL.bNe (DL.c_var 25) (DL.c_var 20))) (DL.c_not (DL.c_val (DL.c_call @K22.F_law_same (DL.a_cons (DL.c_call @K22.F_interval_of (DL.a_cons (DL.c_var 3) (DL.a_cons (DL.c_var 10) @DL.a_nil))) (DL.a_cons (DL.c_call @K22.F_law_ends (DL.a_cons (DL.c_var 3) (DL.a_cons (DL.c_var 10) @DL.a_nil))) @DL.a_nil)))))) (DL.c_ret (DL.c_lit (PySem.PyData.bool @Bool.false))) @DL.c_nil)
def c_law_34 : @DL.SS :=
  (DL.c_for (DL.w_seq (DL.c_var 17)) (DL.g_name 10) (DL.c_seq @K22.c_law_31 (DL.c_seq @K22.c_law_32 @K22.c_law_33)))
def c_law_35 : @DL.SS :=
  (DL.c_for (DL.w_rng1 (DL.c_lit (PySem.PyData.int (@OfNat.ofNat @Int (nat_lit 5) (@instOfNat (nat_lit 5)))))) (DL.g_name 2) (DL.c_seq @K22.c_law_2 (DL.c_seq @K22.c_law_3 (DL.c_seq @K22.c_law_4 (DL.c_seq @K22.c_law_5 (DL.c_seq @K22.c_law_6 (DL.c_seq @K22.c_law_7 (DL.c_seq @K22.c_law_8 (DL.c_seq @K22.c_law_9 (DL.c_seq @K22.c_law_10 (DL.c_seq @K22.c_law_13 (DL.c_seq @K22.c_law_17 (DL.c_seq @K22.c_law_18 (DL.c_seq @K22.c_law_19 (DL.c_seq @K22.c_law_20 (DL.c_seq @K22.c_law_21 (DL.c_seq @K22.c_law_22 (DL.c_seq @K22.c_law_23 (DL.c_seq @K22.c_law_24 (DL.c_seq @K22.c_law_30 @K22.c_law_34))))))))))))))))))))
def c_law_36 : @DL.SS :=
  (DL.c_ret (DL.c_lit (PySem.PyData.bool @Bool.true)))
def c_law : @DL.SS :=
  (DL.c_seq @K22.c_law_1 (DL.c_seq @K22.c_law_35 @K22.c_law_36))
theorem c_law_eq : cSts (cm 40) cs_law 40 (defBody (top 32)) = some c_law := by kernel_rfl
def F_law : DL.Spec := fnW 1 26 c_law
end K22

/-! text E14 -/
set_option Elab.async false
set_option linter.all false
set_option maxRecDepth 100000
set_option maxHeartbeats 1000000
namespace DL
open PySem PySem.Spec PyProof.Rows L2 PySem.SeqAt
theorem kit_NoneType_int : kitB "NoneType" "int" = some false := by decide +kernel
theorem kit_NoneType_bool : kitB "NoneType" "bool" = some false := by decide +kernel
theorem kit_NoneType_str : kitB "NoneType" "str" = some false := by decide +kernel
theorem kit_NoneType_tuple : kitB "NoneType" "tuple" = some false := by decide +kernel
theorem kit_NoneType_list : kitB "NoneType" "list" = some false := by decide +kernel
theorem kit_bool_int : kitB "bool" "int" = some true := by decide +kernel
theorem kit_bool_bool : kitB "bool" "bool" = some true := by decide +kernel
theorem kit_bool_str : kitB "bool" "str" = some false := by decide +kernel
theorem kit_bool_tuple : kitB "bool" "tuple" = some false := by decide +kernel
theorem kit_bool_list : kitB "bool" "list" = some false := by decide +kernel
theorem kit_int_int : kitB "int" "int" = some true := by decide +kernel
theorem kit_int_bool : kitB "int" "bool" = some false := by decide +kernel
theorem kit_int_str : kitB "int" "str" = some false := by decide +kernel
theorem kit_int_tuple : kitB "int" "tuple" = some false := by decide +kernel
theorem kit_int_list : kitB "int" "list" = some false := by decide +kernel
theorem kit_str_int : kitB "str" "int" = some false := by decide +kernel
theorem kit_str_bool : kitB "str" "bool" = some false := by decide +kernel
theorem kit_str_str : kitB "str" "str" = some true := by decide +kernel
theorem kit_str_tuple : kitB "str" "tuple" = some false := by decide +kernel
theorem kit_str_list : kitB "str" "list" = some false := by decide +kernel
theorem kit_list_int : kitB "list" "int" = some false := by decide +kernel
theorem kit_list_bool : kitB "list" "bool" = some false := by decide +kernel
theorem kit_list_str : kitB "list" "str" = some false := by decide +kernel
theorem kit_list_tuple : kitB "list" "tuple" = some false := by decide +kernel
theorem kit_list_list : kitB "list" "list" = some true := by decide +kernel
theorem kit_tuple_int : kitB "tuple" "int" = some false := by decide +kernel
theorem kit_tuple_bool : kitB "tuple" "bool" = some false := by decide +kernel
theorem kit_tuple_str : kitB "tuple" "str" = some false := by decide +kernel
theorem kit_tuple_tuple : kitB "tuple" "tuple" = some true := by decide +kernel
theorem kit_tuple_list : kitB "tuple" "list" = some false := by decide +kernel
theorem at_0 {α : Type} {a : α} {l : List α} : atI (a :: l) 0 = some a := by
  unfold atI ixN; rw [if_pos (by decide), if_pos (by simp only [List.length_cons]; omega)]; rfl
theorem at_1 {α : Type} {a b : α} {l : List α} : atI (a :: b :: l) 1 = some b := by
  unfold atI ixN; rw [if_pos (by decide), if_pos (by simp only [List.length_cons]; omega)]; rfl
theorem at_2 {α : Type} {a b c : α} {l : List α} : atI (a :: b :: c :: l) 2 = some c := by
  unfold atI ixN; rw [if_pos (by decide), if_pos (by simp only [List.length_cons]; omega)]; rfl
theorem at_3 {α : Type} {a b c d : α} {l : List α} : atI (a :: b :: c :: d :: l) 3 = some d := by
  unfold atI ixN; rw [if_pos (by decide), if_pos (by simp only [List.length_cons]; omega)]; rfl
theorem at_nat {α : Type} {l : List α} {i : Nat} : atI l (i : Int) = l[i]? := by
  unfold atI ixN
  rw [if_pos (by omega)]
  by_cases h : i < l.length
  · rw [if_pos (by omega)]; rfl
  · rw [if_neg (by omega), List.getElem?_eq_none (by omega)]; rfl
theorem at_last {α : Type} {l : List α} {a : α} : atI (l ++ [a]) (-1) = some a := by
  unfold atI ixN
  rw [if_neg (by decide), if_pos (by simp only [List.length_append, List.length_cons, List.length_nil]; omega)]
  simp only [Option.bind_some, List.length_append, List.length_cons, List.length_nil]
  rw [show (-1 + ((l.length + (0 + 1) : Nat) : Int)).toNat = l.length by omega]
  simp
theorem ixN_0 {n : Nat} : ixN (n + 1) 0 = some 0 := by unfold ixN; rw [if_pos (by decide), if_pos (by omega)]; rfl
theorem ixN_lt {n i : Nat} (h : i < n) : ixN n (i : Int) = some i := by unfold ixN; rw [if_pos (by omega), if_pos (by omega)]; rfl
theorem ixN_last {n : Nat} : ixN (n + 1) (-1) = some n := by
  unfold ixN
  rw [if_neg (by decide), if_pos (by omega), show (-1 + ((n + 1 : Nat) : Int)).toNat = n by omega]

section
variable {P : Vl → Prop} {B : Bool → Prop} {i j : Int} {x y : Str} {xs ys : List Dat} {b c : Bool} {ρ : En} {kd : Dat → Prop} {ke : Dat → En → Prop} {kk : En → Prop} {kl : List Dat → En → Prop} {n m t : Nat} {d e : Dat} {o : OD} {kb : Bool → En → Prop} {ko : Option Int → En → Prop} {ki : Int → Prop} {kls : List Dat → Prop} {kv : Vl → En → Prop}
theorem bAdd_i : bAdd (.int i) (.int j) P = P (.dat (.int (i + j))) := rfl
theorem bAdd_s : bAdd (.str x) (.str y) P = (x.length + y.length ≤ 16777216 ∧ P (.dat (.str (x ++ y)))) := rfl
theorem bAdd_t : bAdd (.tuple xs) (.tuple ys) P = (xs.length + ys.length ≤ 16777216 ∧ P (.dat (.tuple (xs ++ ys)))) := rfl
theorem bAdd_l : bAdd (.list xs) (.list ys) P = (xs.length + ys.length ≤ 16777216 ∧ P (.new (.lst (xs ++ ys)))) := rfl
theorem bSub_i : bSub (.int i) (.int j) P = P (.dat (.int (i - j))) := rfl
theorem bMul_i : bMul (.int i) (.int j) P = (CMul i j ∧ P (.dat (.int (i * j)))) := rfl
theorem bMul_s : bMul (.str x) (.int i) P = ((0 ≤ i ∧ i ≤ 1000000 ∧ x.length ≤ 1000000 ∧ x.length * i.toNat ≤ 16777216) ∧ P (.dat (.str (Txt.mul x i)))) := rfl
theorem bMul_l : bMul (.list xs) (.int i) P = ((0 ≤ i ∧ i ≤ 1000000 ∧ xs.length * i.toNat ≤ 16777216) ∧ P (.new (.lst (List.replicate i.toNat xs).flatten))) := rfl
theorem bDiv_i : bDiv (.int i) (.int j) P = ((0 < j ∧ j < 1073741824) ∧ P (.dat (.int (i / j)))) := rfl
theorem bMod_i : bMod (.int i) (.int j) P = (0 < j ∧ P (.dat (.int (i % j)))) := rfl
theorem bShl_i : bShl (.int i) (.int j) P = (CPow i j ∧ P (.dat (.int (i * 2 ^ j.toNat)))) := rfl
theorem bPow_i : bPow (.int i) (.int j) P = (CPow i j ∧ P (.dat (.int (i ^ j.toNat)))) := rfl
theorem bXor_i : bXor (.int i) (.int j) P = P (.dat (.int (Builtin.bitXor i j))) := rfl
theorem bEq_i : bEq (.int i) (.int j) B = B (decide (i = j)) := rfl
theorem bEq_s : bEq (.str x) (.str y) B = B (decide (x = y)) := rfl
theorem bEq_b : bEq (.bool b) (.bool c) B = B (decide (b = c)) := rfl
theorem bEq_n : bEq .none .none B = B true := rfl
theorem bEq_t : bEq (.tuple xs) e B = ((Shp (.tuple xs) ∧ Shp e) ∧ B (PyData.eqv (.tuple xs) e)) := by cases e <;> rfl
theorem bEq_l : bEq (.list xs) e B = ((Shp (.list xs) ∧ Shp e) ∧ B (PyData.eqv (.list xs) e)) := by cases e <;> rfl
theorem bNe_ : bNe d e B = bEq d e fun b => B (!b) := rfl
theorem bIs_b : bIs (.bool b) (.bool c) B = B (decide (b = c)) := rfl
theorem bIs_n : bIs d .none B = B (nIsN d) := by cases d <;> rfl
theorem nIsN_n : nIsN .none = true := rfl
theorem nIsN_i : nIsN (.int i) = false := rfl
theorem nIsN_b : nIsN (.bool b) = false := rfl
theorem nIsN_s : nIsN (.str x) = false := rfl
theorem nIsN_l : nIsN (.list xs) = false := rfl
theorem nIsN_t : nIsN (.tuple xs) = false := rfl
theorem bIsNot_ : bIsNot d e B = bIs d e fun b => B (!b) := rfl
theorem bLt_i : bLt (.int i) (.int j) B = B (decide (i < j)) := rfl
theorem bLt_s : bLt (.str x) (.str y) B = B (decide (x.cps.toList < y.cps.toList)) := rfl
theorem bLt_t : bLt (.tuple xs) (.tuple ys) B = ((W.alikeAll xs ys = true ∧ Shp (.tuple xs) ∧ Shp (.tuple ys)) ∧ B (W.dataLt (.tuple xs) (.tuple ys))) := rfl
theorem bLe_i : bLe (.int i) (.int j) B = B (decide (i ≤ j)) := rfl
theorem bGt_i : bGt (.int i) (.int j) B = B (decide (j < i)) := rfl
theorem bGe_i : bGe (.int i) (.int j) B = B (decide (j ≤ i)) := rfl
theorem bIn_t : bIn d (.tuple xs) B = ((Shp d ∧ Shp (.tuple xs)) ∧ B (xs.any fun z => PyData.eqv z d)) := by cases d <;> rfl
theorem bIn_l : bIn d (.list xs) B = ((Shp d ∧ Shp (.list xs)) ∧ B (xs.any fun z => PyData.eqv z d)) := by cases d <;> rfl
theorem bNotIn_ : bNotIn d e B = bIn d e fun b => B (!b) := rfl
theorem fIdx_l : fIdx (.list xs) (.int i) P = ∃ d, atI xs i = some d ∧ P (.dat d) := rfl
theorem fIdx_t : fIdx (.tuple xs) (.int i) P = ∃ d, atI xs i = some d ∧ P (.dat d) := rfl
theorem fSl_l {l u : Option Int} : fSl (.list xs) l u P = P (.new (.lst (cut xs l u))) := rfl
theorem fSl_t {l u : Option Int} : fSl (.tuple xs) l u P = P (.dat (.tuple (cut xs l u))) := rfl
theorem gLen_l : gLen [.list xs] P = P (.dat (.int xs.length)) := rfl
theorem gLen_t : gLen [.tuple xs] P = P (.dat (.int xs.length)) := rfl
theorem gLen_s : gLen [.str x] P = (x.length ≤ 16777216 ∧ P (.dat (.int x.length))) := rfl
theorem gInt_i : gInt [.int i] P = P (.dat (.int i)) := rfl
theorem gInt_b : gInt [.bool b] P = P (.dat (.int (if b then 1 else 0))) := rfl
theorem gStr_i : gStr [.int i] P = (i.natAbs.log2 < 1920 ∧ P (.dat (.str (toString i)))) := rfl
theorem gList_l : gList [.list xs] P = P (.new (.lst xs)) := rfl
theorem gList_t : gList [.tuple xs] P = P (.new (.lst xs)) := rfl
theorem gList_f : gList [.dict [(.none, .list xs)]] P = P (.new (.lst xs)) := rfl
theorem gTuple_l : gTuple [.list xs] P = P (.dat (.tuple xs)) := rfl
theorem gTuple_t : gTuple [.tuple xs] P = P (.dat (.tuple xs)) := rfl
theorem gMax_2 : gMax [.int i, .int j] P = P (.dat (.int (if j > i then j else i))) := rfl
theorem gMin_2 : gMin [.int i, .int j] P = P (.dat (.int (if j < i then j else i))) := rfl
theorem tyD_n : tyD .none = "NoneType" := rfl
theorem tyD_b : tyD (.bool b) = "bool" := rfl
theorem tyD_i : tyD (.int i) = "int" := rfl
theorem tyD_s : tyD (.str x) = "str" := rfl
theorem tyD_l : tyD (.list xs) = "list" := rfl
theorem tyD_t : tyD (.tuple xs) = "tuple" := rfl
theorem bIAdd_i : bIAdd (.int i) (.int j) P = P (.dat (.int (i + j))) := rfl
theorem bIAdd_s : bIAdd (.str x) (.str y) P = (x.length + y.length ≤ 16777216 ∧ P (.dat (.str (x ++ y)))) := rfl
theorem bIMul_i : bIMul (.int i) (.int j) P = (CMul i j ∧ P (.dat (.int (i * j)))) := rfl
theorem fRev_t : fRev (.tuple xs) P = P (.dat (.tuple xs.reverse)) := rfl
def slR (o : Option Slot) (k : Dat → Prop) : Prop := match o with
  | some (.val d) => k d
  | some (.own _ (.lst ds)) => k (.list ds)
  | _ => False
theorem slR_v : slR (some (.val d)) kd = kd d := rfl
theorem slR_o : slR (some (.own t (.lst xs))) kd = kd (.list xs) := rfl
theorem rdK_d : rdK ρ (.dat d) kd = kd d := rfl
theorem rdK_n : rdK ρ (.new (.lst xs)) kd = kd (.list xs) := rfl
theorem rdK_l : rdK ρ (.loc n) kd = slR ρ[n]? kd := by unfold rdK slR; rfl
def slM (o : Option Slot) (i : Nat) (ρ : En) (k : Dat → En → Prop) : Prop := match o with
  | some (.val d) => k d ρ
  | some (.own 0 (.lst ds)) => k (.list ds) (ρ.set i (.val (.list ds)))
  | _ => False
theorem slM_v : slM (some (.val d)) n ρ ke = ke d ρ := rfl
theorem slM_o : slM (some (.own 0 (.lst xs))) n ρ ke = ke (.list xs) (ρ.set n (.val (.list xs))) := rfl
theorem mvK_d : mvK ρ (.dat d) ke = ke d ρ := rfl
theorem mvK_n : mvK ρ (.new (.lst xs)) ke = ke (.list xs) ρ := rfl
theorem mvK_l : mvK ρ (.loc n) ke = slM ρ[n]? n ρ ke := by unfold mvK slM; rfl
theorem rdsK_0 {k : List Dat → Prop} : rdsK ρ [] k = k [] := rfl
theorem rdsK_1 {k : List Dat → Prop} {x : Vl} {xs : List Vl} : rdsK ρ (x :: xs) k = rdK ρ x fun d => rdsK ρ xs fun ds => k (d :: ds) := rfl
theorem mvsK_0 {k : List Dat → En → Prop} : mvsK ρ [] k = k [] ρ := rfl
theorem mvsK_1 {k : List Dat → En → Prop} {x : Vl} {xs : List Vl} : mvsK ρ (x :: xs) k = mvK ρ x fun d ρ1 => mvsK ρ1 xs fun ds ρ2 => k (d :: ds) ρ2 := rfl
theorem asgK_d : asgK n (.dat d) ρ kk = kk (ρ.set n (.val d)) := rfl
theorem asgK_n : asgK n (.new o) ρ kk = kk (ρ.set n (.own 0 o)) := rfl
theorem asgK_l : asgK n (.loc m) ρ kk = slM ρ[m]? m ρ fun d ρ1 => kk (ρ1.set n (.val d)) := by unfold asgK; exact mvK_l
def slV (o : Option Slot) (i : Nat) (ρ : En) (k : Vl → En → Prop) : Prop := match o with
  | some (.val d) => k (.dat d) ρ
  | some (.own _ _) => k (.loc i) ρ
  | _ => False
theorem slV_v : slV (some (.val d)) n ρ kv = kv (.dat d) ρ := rfl
theorem slV_o : slV (some (.own t o)) n ρ kv = kv (.loc n) ρ := rfl
theorem c_var_ : c_var n ρ kv = slV ρ[n]? n ρ kv := by unfold c_var slV; rfl
theorem asB_b : asB kb (.dat (.bool b)) ρ = kb b ρ := rfl
theorem asI_i : asI ko (.dat (.int i)) ρ = ko (some i) ρ := rfl
theorem asInt_i : asInt ki (.dat (.int i)) = ki i := rfl
theorem asNew_l : asNew kls (.list xs) = kls xs := rfl
theorem asList_l : asList kls (.list xs) = kls xs := rfl
theorem asSeq_l : asSeq kl (.list xs) ρ = kl xs ρ := rfl
theorem asSeq_t : asSeq kl (.tuple xs) ρ = kl xs ρ := rfl
theorem asZip_l : asZip kl (.list xs) (.list ys) ρ = kl (zipD xs ys) ρ := rfl
theorem asZip_t : asZip kl (.tuple xs) (.tuple ys) ρ = kl (zipD xs ys) ρ := rfl
def slO (o : Option Slot) (k : Nat → List Dat → Prop) : Prop := match o with
  | some (.own t (.lst ds)) => k t ds
  | _ => False
theorem slO_o {k : Nat → List Dat → Prop} : slO (some (.own t (.lst xs))) k = k t xs := rfl
theorem ownK_ {k : Nat → List Dat → Prop} : ownK ρ n k = slO ρ[n]? k := by unfold ownK slO; rfl
end
theorem nd_1 {n : Nat} : [n].Nodup = True := eq_true (by simp)
theorem ix_41 : ixN 4 1 = some 1 := rfl
theorem ix_42 : ixN 4 2 = some 2 := rfl
theorem ix_43 : ixN 4 3 = some 3 := rfl
def lcK (vs : List Nat) (ds : List Dat) (g : SG) (t : SB) (e : SE) (ρ1 : En) (k : Vl → En → Prop) : Prop := ∃ I : Nat → List Dat → En → Prop, I 0 [] (wipeE vs ρ1) ∧
  (∀ i d acc ρ2, ds[i]? = some d → I i acc ρ2 → g d ρ2 fun ρ3 => t ρ3 fun c ρ4 => if c = true then e ρ4 fun x ρ5 => mvK ρ5 x fun d' ρ6 => acc.length < 16777216 ∧ I (i + 1) (acc ++ [d']) (wipeE vs ρ6) else I (i + 1) acc (wipeE vs ρ4)) ∧
  ∀ acc ρ2, I ds.length acc ρ2 → k (.new (.lst acc)) ρ2
theorem c_lc_ {vs : List Nat} {w : SW} {g : SG} {t : SB} {e : SE} {ρ : En} {k : Vl → En → Prop} : c_lc vs w g t e ρ k = w ρ fun ds ρ1 => lcK vs ds g t e ρ1 k := rfl
theorem lcK_map {α : Type} {vs : List Nat} {g : SG} {t : SB} {e : SE} {ρ1 : En} {k : Vl → En → Prop} {ds : List Dat} (xs : List α) (enc : α → Dat) (f : α → Option Dat) (ρ0 : En) (hd : ds = xs.map enc) (h0 : wipeE vs ρ1 = ρ0) (hl : xs.length ≤ 16777216)
    (step : ∀ x ∈ xs, ∀ (C : Dat → En → Prop) (E : En → Prop), (∀ d ρ6, f x = some d → wipeE vs ρ6 = ρ0 → C d ρ6) → (∀ ρ4, f x = none → wipeE vs ρ4 = ρ0 → E ρ4) → g (enc x) ρ0 fun ρ3 => t ρ3 fun c ρ4 => if c = true then e ρ4 fun z ρ5 => mvK ρ5 z C else E ρ4)
    (fin : k (.new (.lst (xs.filterMap f))) ρ0) : lcK vs ds g t e ρ1 k := by
  subst hd
  refine ⟨fun i acc ρ => acc = (xs.take i).filterMap f ∧ ρ = ρ0, ⟨by simp, h0⟩, fun i d acc ρ2 hi h => ?_, fun acc ρ2 h => ?_⟩
  · obtain ⟨rfl, rfl⟩ := h
    rw [List.getElem?_map] at hi
    obtain ⟨x, hx, rfl⟩ : ∃ x, xs[i]? = some x ∧ enc x = d := by
      cases e : xs[i]? with
      | none => rw [e] at hi; cases hi
      | some x => rw [e] at hi; exact ⟨x, rfl, Option.some.inj hi⟩
    have hlt : i < xs.length := (List.getElem?_eq_some_iff.mp hx).1
    have ht : xs.take (i + 1) = xs.take i ++ [x] := by
      rw [List.take_add_one, hx]; rfl
    refine step x (List.mem_of_getElem? hx) _ _ (fun d ρ6 e1 e2 => ⟨?_, ?_, e2⟩) fun ρ4 e1 e2 => ⟨?_, e2⟩
    · have := List.length_filterMap_le f (xs.take i)
      rw [List.length_take] at this
      omega
    · rw [ht, List.filterMap_append]; simp [e1]
    · rw [ht, List.filterMap_append]; simp [e1]
  · obtain ⟨rfl, rfl⟩ := h
    rw [List.length_map, List.take_length]
    exact fin
/-- with the draws: the list's length alone is known beforehand -/
theorem lcK_st {α S : Type} {vs : List Nat} {g : SG} {t : SB} {e : SE} {ρ1 : En} {k : Vl → En → Prop} {ds : List Dat} (n : Nat) (enc : α → Dat) (P : α → Prop) (at_ : S → En) (s0 : S) (hd : ds.length = n) (h0 : wipeE vs ρ1 = at_ s0) (hl : n ≤ 16777216)
    (step : ∀ d ∈ ds, ∀ (s : S) (C : Dat → En → Prop) (E : En → Prop), (∀ x s' ρ6, P x → wipeE vs ρ6 = at_ s' → C (enc x) ρ6) → g d (at_ s) fun ρ3 => t ρ3 fun c ρ4 => if c = true then e ρ4 fun z ρ5 => mvK ρ5 z C else E ρ4)
    (fin : ∀ (xs : List α) s, xs.length = n → (∀ x ∈ xs, P x) → k (.new (.lst (xs.map enc))) (at_ s)) : lcK vs ds g t e ρ1 k := by
  refine ⟨fun i acc ρ => ∃ (xs : List α) (s : S), acc = xs.map enc ∧ xs.length = i ∧ (∀ x ∈ xs, P x) ∧ ρ = at_ s, ⟨[], s0, rfl, rfl, fun x h => by simp at h, h0⟩, fun i d acc ρ2 hi h => ?_, fun acc ρ2 h => ?_⟩
  · obtain ⟨xs, s, rfl, rfl, hp, rfl⟩ := h
    have hlt : xs.length < ds.length := (List.getElem?_eq_some_iff.mp hi).1
    refine step d (List.mem_of_getElem? hi) s _ _ fun x s' ρ6 px e2 => ⟨by rw [List.length_map]; omega, xs ++ [x], s', by simp, by simp, fun y hy => ?_, e2⟩
    rcases List.mem_append.mp hy with hy | hy
    · exact hp y hy
    · rw [List.mem_singleton.mp hy]; exact px
  · obtain ⟨xs, s, rfl, h1, h2, rfl⟩ := h
    exact fin xs s (by omega) h2
theorem b_yes_ {ρ : En} {k : Bool → En → Prop} : b_yes ρ k = k true ρ := rfl

end DL

local macro_rules | `(tactic| walk_at "dl") => `(tactic| try simp -implicitDefEqProofs only [DL.c_seq, DL.c_nil, DL.c_ret, DL.c_retN, DL.c_brk, DL.c_cont, DL.c_ifS, DL.c_do, DL.c_set, DL.c_unp, DL.c_par, DL.c_aug, DL.c_app, DL.c_ext, DL.c_seti, DL.c_popA, DL.c_pop0, DL.c_lit, DL.c_bin, DL.c_cmp, DL.bF, DL.c_val, DL.c_and, DL.c_or, DL.c_not, DL.c_andV, DL.c_orV, DL.c_notV, DL.c_if, DL.a_nil, DL.a_cons, DL.c_tup, DL.c_lst, DL.c_fn, DL.c_idx, DL.c_slice, DL.o_no, DL.o_some, DL.c_call, DL.c_callR, DL.c_callN, DL.c_isi, DL.c_meth, DL.c_chain, DL.q_one, DL.q_cons, DL.c_neg, DL.fNeg, DL.c_rev, DL.pargsK, DL.fillK, DL.refsOf, DL.backK, DL.endNew, DL.noLoc, DL.outsK, DL.startE, DL.refPos, DL.w_seq, DL.w_rng1, DL.w_rng2, DL.w_zip, DL.g_name, DL.g_tup, DL.g_cons, DL.g_nil, DL.wipeE, DL.bAdd_i, DL.bAdd_s, DL.bAdd_t, DL.bAdd_l, DL.bSub_i, DL.bMul_i, DL.bMul_s, DL.bMul_l, DL.bDiv_i, DL.bMod_i, DL.bShl_i, DL.bPow_i, DL.bXor_i, DL.bEq_i, DL.bEq_s, DL.bEq_b, DL.bEq_n, DL.bEq_t, DL.bEq_l, DL.bNe_, DL.bIs_b, DL.bIs_n, DL.nIsN_n, DL.nIsN_i, DL.nIsN_b, DL.nIsN_s, DL.nIsN_l, DL.nIsN_t, DL.bIsNot_, DL.bLt_i, DL.bLt_s, DL.bLt_t, DL.bLe_i, DL.bGt_i, DL.bGe_i, DL.bIn_t, DL.bIn_l, DL.bNotIn_, DL.fIdx_l, DL.fIdx_t, DL.fSl_l, DL.fSl_t, DL.gLen_l, DL.gLen_t, DL.gLen_s, DL.gInt_i, DL.gInt_b, DL.gStr_i, DL.gList_l, DL.gList_t, DL.gList_f, DL.gTuple_l, DL.gTuple_t, DL.gMax_2, DL.gMin_2, DL.tyD_n, DL.tyD_b, DL.tyD_i, DL.tyD_s, DL.tyD_l, DL.tyD_t, DL.bIAdd_i, DL.bIAdd_s, DL.bIMul_i, DL.fRev_t, DL.slR_v, DL.slR_o, DL.rdK_d, DL.rdK_n, DL.rdK_l, DL.slM_v, DL.slM_o, DL.mvK_d, DL.mvK_n, DL.mvK_l, DL.rdsK_0, DL.rdsK_1, DL.mvsK_0, DL.mvsK_1, DL.asgK_d, DL.asgK_n, DL.asgK_l, DL.slV_v, DL.slV_o, DL.c_var_, DL.asB_b, DL.asI_i, DL.asInt_i, DL.asNew_l, DL.asList_l, DL.asSeq_l, DL.asSeq_t, DL.asZip_l, DL.asZip_t, DL.slO_o, DL.ownK_, List.getElem?_cons_zero, List.getElem?_cons_succ, List.set_cons_zero, List.set_cons_succ, List.getElem?_nil, List.map_cons, List.map_nil, List.length_cons, List.length_nil, List.cons_append, List.nil_append, List.append_nil, if_true, if_false, ite_true, ite_false, reduceIte, Bool.false_eq_true, decide_eq_true_eq, Bool.not_true, Bool.not_false, true_and, and_true, not_true_eq_false, not_false_eq_true, Nat.reduceAdd, Nat.reduceSub, Nat.reduceLeDiff, DL.nd_1, DL.c_lc_, DL.b_yes_, DL.ix_41, DL.ix_42, DL.ix_43, DL.at_0, DL.at_1, DL.at_2, DL.at_3, Option.some.injEq, exists_eq_left', DL.kit_NoneType_int, DL.kit_NoneType_bool, DL.kit_NoneType_str, DL.kit_NoneType_tuple, DL.kit_NoneType_list, DL.kit_bool_int, DL.kit_bool_bool, DL.kit_bool_str, DL.kit_bool_tuple, DL.kit_bool_list, DL.kit_int_int, DL.kit_int_bool, DL.kit_int_str, DL.kit_int_tuple, DL.kit_int_list, DL.kit_str_int, DL.kit_str_bool, DL.kit_str_str, DL.kit_str_tuple, DL.kit_str_list, DL.kit_list_int, DL.kit_list_bool, DL.kit_list_str, DL.kit_list_tuple, DL.kit_list_list, DL.kit_tuple_int, DL.kit_tuple_bool, DL.kit_tuple_str, DL.kit_tuple_tuple, DL.kit_tuple_list, Int.reduceNeg, Int.reduceAdd, Int.reduceSub])

/-! text S22 -/
set_option Elab.async false
set_option linter.all false
set_option maxRecDepth 100000
set_option maxHeartbeats 1000000
namespace K22
open PySem PySem.Spec PyProof.Rows L2 PySem.SeqAt DL
abbrev OK := Dat → List OD → Prop
def pr (p : Nat × Nat) : Dat := .tuple [.int p.1, .int p.2]
def prs (l : List (Nat × Nat)) : Dat := .tuple (l.map pr)
theorem is_whole_int {i : Int} {K : OK} (h : K (.bool true) []) : F_is_whole [.val (.int i)] K := by
  refine ⟨rfl, ?_⟩
  unfold c_is_whole
  show DL.c_ret _ _ [.val (.int i)]
  walk_at "dl"
  exact h
theorem twos_ok {n : Nat} {K : OK} (hn : n ≤ 1000) (h : K (.int (2 ^ n : Nat)) []) : F_twos [.val (.int n)] K := by
  refine ⟨rfl, ?_⟩
  unfold c_twos
  show DL.c_ret _ _ [.val (.int n)]
  walk_at "dl"
  refine ⟨⟨by omega, by omega, by decide⟩, ?_⟩
  rw [Int.one_mul, Int.toNat_natCast, show ((2 : Int) ^ n) = ((2 ^ n : Nat) : Int) by simp]
  exact h
theorem size_under_ok {b t : Nat} {K : OK} (hb : b ≤ 1000) (ht : t ≤ b) (h : K (.int (2 ^ (b - t) : Nat)) []) : F_size_under [.val (.int b), .val (.int t)] K := by
  refine ⟨rfl, ?_⟩
  unfold c_size_under
  show DL.c_ret _ _ [.val (.int b), .val (.int t)]
  walk_at "dl"
  rw [show ((b : Int) - (t : Int)) = ((b - t : Nat) : Int) by omega]
  exact twos_ok (by omega) h

theorem look_bits_ok {b : Nat} {K : OK} (h1 : 1 ≤ b) (hb : b ≤ 20) (h : K .none []) : F_look_at_bits [.val (.int b)] K := by
  refine ⟨rfl, ?_⟩
  unfold c_look_at_bits
  show DL.c_ifS _ _ _ _ [.val (.int b)]
  walk_at "dl"
  refine is_whole_int ?_
  walk_at "dl"
  rw [if_pos (by omega)]
  walk_at "dl"
  rw [show decide ((b : Int) ≤ 20) = true by simp; omega]
  exact h
theorem look_int_ok {b lo hi : Nat} {K : OK} (h1 : 1 ≤ b) (hb : b ≤ 20) (hl : lo ≤ hi) (hh : hi < 2 ^ b) (h : K .none []) : F_look_at_interval [.val (.int b), .val (.int lo), .val (.int hi)] K := by
  refine ⟨rfl, ?_⟩
  unfold c_look_at_interval
  show DL.c_seq _ _ _ [.val (.int b), .val (.int lo), .val (.int hi)]
  unfold c_look_at_interval_1 c_look_at_interval_2
  walk_at "dl"
  refine look_bits_ok h1 hb ?_
  walk_at "dl"
  refine is_whole_int ?_
  walk_at "dl"
  refine is_whole_int ?_
  walk_at "dl"
  rw [if_pos (by omega)]
  rw [if_pos (by omega)]
  refine size_under_ok (t := 0) (by omega) (by omega) ?_
  walk_at "dl"
  rw [decide_eq_true (by rw [Nat.sub_zero]; omega)]
  exact h
theorem is_prefix_ok {b v t : Nat} {K : OK} (h1 : 1 ≤ b) (hb : b ≤ 20) (ht : t ≤ b) (hv : v < 2 ^ b) (hd : 2 ^ (b - t) ∣ v) (h : K (.bool true) []) : F_is_prefix [.val (.int b), .val (pr (v, t))] K := by
  refine ⟨rfl, ?_⟩
  unfold c_is_prefix pr
  show DL.c_seq _ _ _ [.val (.int b), .val _]
  unfold c_is_prefix_1 c_is_prefix_2 c_is_prefix_3 c_is_prefix_4
  walk_at "dl"
  refine look_bits_ok h1 hb ?_
  walk_at "dl"
  rw [show decide (((0 + 1 + 1 : Nat) : Int) = 2) = true by decide]
  walk_at "dl"
  refine is_whole_int ?_
  walk_at "dl"
  refine is_whole_int ?_
  walk_at "dl"
  rw [if_pos (by omega), decide_eq_true (show (t : Int) ≤ b by omega)]
  walk_at "dl"
  rw [if_pos (by omega)]
  refine size_under_ok (t := 0) (by omega) (by omega) ?_
  walk_at "dl"
  rw [if_pos (show (v : Int) < ((2 ^ (b - 0) : Nat) : Int) by rw [Nat.sub_zero]; omega)]
  refine size_under_ok (by omega) ht ?_
  walk_at "dl"
  refine ⟨by have := Nat.two_pow_pos (b - t); omega, ?_⟩
  rw [decide_eq_true (show (v : Int) % ((2 ^ (b - t) : Nat) : Int) = 0 by omega)]
  exact h
theorem look_prefix_ok {b v t : Nat} {K : OK} (h1 : 1 ≤ b) (hb : b ≤ 20) (ht : t ≤ b) (hv : v < 2 ^ b) (hd : 2 ^ (b - t) ∣ v) (h : K .none []) : F_look_at_prefix [.val (.int b), .val (pr (v, t))] K := by
  refine ⟨rfl, ?_⟩
  unfold c_look_at_prefix
  show DL.c_ifS _ _ _ _ [.val (.int b), .val _]
  walk_at "dl"
  refine is_prefix_ok h1 hb ht hv hd ?_
  walk_at "dl"
  exact h
theorem interval_ok {b v t : Nat} {K : OK} (h1 : 1 ≤ b) (hb : b ≤ 20) (ht : t ≤ b) (hv : v < 2 ^ b) (hd : 2 ^ (b - t) ∣ v) (h : K (pr (v, v + 2 ^ (b - t) - 1)) []) : F_interval_of [.val (.int b), .val (pr (v, t))] K := by
  refine ⟨rfl, ?_⟩
  unfold c_interval_of
  show DL.c_seq _ _ _ [.val (.int b), .val _]
  unfold c_interval_of_1 c_interval_of_2
  walk_at "dl"
  refine look_prefix_ok h1 hb ht hv hd ?_
  unfold pr
  walk_at "dl"
  refine size_under_ok (by omega) ht ?_
  walk_at "dl"
  have := Nat.two_pow_pos (b - t)
  rw [show (v : Int) + ((2 ^ (b - t) : Nat) : Int) - 1 = ((v + 2 ^ (b - t) - 1 : Nat) : Int) by omega]
  exact h
theorem told_bits_ok {v t : Nat} {K : OK} (h : K (.int t) []) : F_told_bits [.val (pr (v, t))] K := by
  refine ⟨rfl, ?_⟩
  unfold c_told_bits pr
  show DL.c_ret _ _ [.val _]
  walk_at "dl"
  exact h
theorem within_ok {b v t x : Nat} {K : OK} (h1 : 1 ≤ b) (hb : b ≤ 20) (ht : t ≤ b) (hv : v < 2 ^ b) (hd : 2 ^ (b - t) ∣ v) (h : K (.bool (decide (v ≤ x ∧ x ≤ v + 2 ^ (b - t) - 1))) []) : F_within_prefix [.val (.int b), .val (pr (v, t)), .val (.int x)] K := by
  refine ⟨rfl, ?_⟩
  unfold c_within_prefix
  show DL.c_seq _ _ _ [.val (.int b), .val _, .val _, .un, .un]
  unfold c_within_prefix_1 c_within_prefix_2
  walk_at "dl"
  refine interval_ok h1 hb ht hv hd ?_
  unfold pr
  walk_at "dl"
  by_cases h2 : v ≤ x
  · rw [if_pos (by omega)]
    have : decide ((x : Int) ≤ ((v + 2 ^ (b - t) - 1 : Nat) : Int)) = decide (v ≤ x ∧ x ≤ v + 2 ^ (b - t) - 1) := by
      by_cases h3 : x ≤ v + 2 ^ (b - t) - 1
      · rw [decide_eq_true (by omega), decide_eq_true ⟨h2, h3⟩]
      · rw [decide_eq_false (by omega), decide_eq_false (fun z => h3 z.2)]
    rw [this]
    exact h
  · rw [if_neg (by omega)]
    rw [decide_eq_false (fun z => h2 z.1)] at h
    exact h
end K22

/-! text M22 -/
set_option linter.all false
namespace M22
theorem dvd_step {A x y : Nat} (hA : 0 < A) (h1 : A ∣ x) (h2 : A ∣ y) (h : x < y) : x + A ≤ y := by
  obtain ⟨a, rfl⟩ := h1
  obtain ⟨c, rfl⟩ := h2
  have : a < c := Nat.lt_of_mul_lt_mul_left h
  calc A * a + A = A * (a + 1) := by rw [Nat.mul_succ]
    _ ≤ A * c := Nat.mul_le_mul_left _ this
theorem pow_dvd {i j : Nat} (h : i ≤ j) : 2 ^ i ∣ 2 ^ j := Nat.pow_dvd_pow 2 h
/-- blocks are nested or apart -/
theorem nest {i j p v : Nat} (hij : i ≤ j) (h1 : 2 ^ i ∣ p) (h2 : 2 ^ j ∣ v) (ha : p < v + 2 ^ j) (hb : v < p + 2 ^ i) : v ≤ p ∧ p + 2 ^ i ≤ v + 2 ^ j := by
  have hp := Nat.two_pow_pos i
  have d1 : 2 ^ i ∣ v := Nat.dvd_trans (pow_dvd hij) h2
  have d2 : 2 ^ i ∣ v + 2 ^ j := Nat.dvd_add d1 (pow_dvd hij)
  refine ⟨?_, dvd_step hp h1 d2 ha⟩
  rcases Nat.lt_or_ge p v with h | h
  · have := dvd_step hp h1 d1 h
    omega
  · exact h
/-- the block of size 2^j at lo fits -/
def Fit (hi lo j : Nat) : Prop := 2 ^ j ∣ lo ∧ lo + 2 ^ j ≤ hi + 1
theorem Fit.down {hi lo j k : Nat} (h : Fit hi lo j) (hk : k ≤ j) : Fit hi lo k :=
  ⟨Nat.dvd_trans (pow_dvd hk) h.1, by have := Nat.pow_le_pow_right (n := 2) (by omega) hk; have := h.2; omega⟩
instance {hi lo j : Nat} : Decidable (Fit hi lo j) := by unfold Fit; infer_instance
def tl (b lo hi : Nat) : Nat → Nat
  | 0 => 0
  | t + 1 => if Fit hi lo (b - t) then tl b lo hi t else t + 1
/-- the widest block at lo -/
structure Wd (b hi lo t : Nat) : Prop where
  le : t ≤ b
  fit : Fit hi lo (b - t)
  top : t = 0 ∨ ¬ Fit hi lo (b - t + 1)
theorem tl_wd {b lo hi : Nat} : ∀ t, t ≤ b → Fit hi lo (b - t) → Wd b hi lo (tl b lo hi t)
  | 0, h, f => ⟨Nat.zero_le _, f, .inl rfl⟩
  | t + 1, h, f => by
    unfold tl
    by_cases g : Fit hi lo (b - t)
    · rw [if_pos g]; exact tl_wd t (by omega) g
    · rw [if_neg g]; exact ⟨h, f, .inr (by rw [show b - (t + 1) + 1 = b - t by omega]; exact g)⟩
theorem Wd.big {b hi lo t j : Nat} (h : Wd b hi lo t) (hj : j ≤ b) (f : Fit hi lo j) : j ≤ b - t := by
  rcases h.top with h0 | h0
  · omega
  · rcases Nat.lt_or_ge (b - t) j with g | g
    · exact absurd (f.down (k := b - t + 1) g) h0
    · exact g
theorem Wd.uniq {b hi lo t u : Nat} (h : Wd b hi lo t) (g : Wd b hi lo u) : t = u := by
  have h1 := h.big (j := b - u) (by omega) g.fit
  have h2 := g.big (j := b - t) (by omega) h.fit
  have := h.le
  have := g.le
  omega
inductive Tl (b hi : Nat) : Nat → List (Nat × Nat) → Prop
  | nil : Tl b hi (hi + 1) []
  | cons {lo t : Nat} {l : List (Nat × Nat)} : Wd b hi lo t → Tl b hi (lo + 2 ^ (b - t)) l → Tl b hi lo ((lo, t) :: l)
theorem Wd.lt {b hi lo t : Nat} (w : Wd b hi lo t) : lo ≤ hi ∧ lo < lo + 2 ^ (b - t) := by
  have h1 := w.fit.2
  have h2 := Nat.two_pow_pos (b - t)
  omega
theorem Tl.lo_le {b hi lo : Nat} {l : List (Nat × Nat)} (h : Tl b hi lo l) : lo ≤ hi + 1 := by
  cases h with
  | nil => exact Nat.le_refl _
  | cons w r => have := w.lt; omega
theorem Tl.uniq {b hi : Nat} : ∀ {l k : List (Nat × Nat)} {lo : Nat}, Tl b hi lo l → Tl b hi lo k → l = k
  | [], _, _, .nil, .nil => rfl
  | [], _ :: _, _, h, .cons w r => by have := w.lt; cases h; omega
  | _ :: _, [], _, .cons w r, h => by
    have := w.lt; cases h; omega
  | _ :: _, _ :: _, _, .cons w r, .cons w' r' => by
    obtain rfl := w.uniq w'
    rw [r.uniq r']
def dec (b hi : Nat) : Nat → Nat → List (Nat × Nat)
  | 0, _ => []
  | n + 1, lo => if lo ≤ hi then (lo, tl b lo hi b) :: dec b hi n (lo + 2 ^ (b - tl b lo hi b)) else []
def D (b lo hi : Nat) : List (Nat × Nat) := dec b hi (hi + 1 - lo) lo
theorem wd_tl {b hi lo : Nat} (h : lo ≤ hi) : Wd b hi lo (tl b lo hi b) :=
  tl_wd b (Nat.le_refl _) ⟨by rw [Nat.sub_self]; exact Nat.one_dvd _, by rw [Nat.sub_self]; omega⟩
theorem dec_tl {b hi : Nat} : ∀ (n lo : Nat), lo ≤ hi + 1 → hi + 1 ≤ lo + n → Tl b hi lo (dec b hi n lo)
  | 0, lo, h1, h2 => by rw [show lo = hi + 1 by omega]; exact .nil
  | n + 1, lo, h1, h2 => by
    unfold dec
    by_cases h : lo ≤ hi
    · rw [if_pos h]
      have w := wd_tl (b := b) h
      have := Nat.two_pow_pos (b - tl b lo hi b)
      exact .cons w (dec_tl n _ w.fit.2 (by omega))
    · rw [if_neg h, show lo = hi + 1 by omega]; exact .nil
theorem D_tl {b hi lo : Nat} (h : lo ≤ hi + 1) : Tl b hi lo (D b lo hi) := dec_tl _ _ h (by omega)
theorem Tl.eqD {b hi lo : Nat} {l : List (Nat × Nat)} (h : Tl b hi lo l) : l = D b lo hi := h.uniq (D_tl h.lo_le)
/-- where a tile lies -/
theorem Tl.mem {b hi : Nat} : ∀ {l : List (Nat × Nat)} {lo v t : Nat}, Tl b hi lo l → (v, t) ∈ l → lo ≤ v ∧ Wd b hi v t
  | _, _, _, _, .nil, h => by simp at h
  | _, _, v, t, .cons w r, h => by
    rcases List.mem_cons.mp h with h | h
    · cases h; exact ⟨Nat.le_refl _, w⟩
    · obtain ⟨h1, h2⟩ := r.mem h; have := w.lt; exact ⟨by omega, h2⟩
/-- each block within is within a tile -/
theorem Tl.cover {b hi : Nat} : ∀ {l : List (Nat × Nat)} {lo p j : Nat}, Tl b hi lo l → j ≤ b → 2 ^ j ∣ p → lo ≤ p → p + 2 ^ j ≤ hi + 1 → ∃ v t, (v, t) ∈ l ∧ v ≤ p ∧ p + 2 ^ j ≤ v + 2 ^ (b - t)
  | _, _, p, j, .nil, hj, hd, h1, h2 => by have := Nat.two_pow_pos j; omega
  | _, lo, p, j, .cons (t := t) w r, hj, hd, h1, h2 => by
    rcases Nat.lt_or_ge p (lo + 2 ^ (b - t)) with h | h
    · refine ⟨lo, t, List.mem_cons_self .., h1, ?_⟩
      rcases Nat.lt_or_ge (b - t) j with g | g
      · have n := nest (Nat.le_of_lt g) w.fit.1 hd (by have := Nat.two_pow_pos j; omega) h
        obtain rfl : p = lo := by omega
        have := w.big hj ⟨hd, h2⟩
        omega
      · exact (nest g hd w.fit.1 h (by have := Nat.two_pow_pos j; omega)).2
    · obtain ⟨v, u, m, h3, h4⟩ := r.cover hj hd h h2
      exact ⟨v, u, List.mem_cons_of_mem _ m, h3, h4⟩
/-- tiles that share a point are one -/
theorem Tl.apart {b hi : Nat} : ∀ {l : List (Nat × Nat)} {lo v t v' t' x : Nat}, Tl b hi lo l → (v, t) ∈ l → (v', t') ∈ l → v ≤ x → x < v + 2 ^ (b - t) → v' ≤ x → x < v' + 2 ^ (b - t') → v = v' ∧ t = t'
  | _, _, _, _, _, _, _, .nil, h, _, _, _, _, _ => by simp at h
  | _, lo, v, t, v', t', x, .cons w r, h, h', a1, a2, a3, a4 => by
    rcases List.mem_cons.mp h with h | h <;> rcases List.mem_cons.mp h' with h' | h'
    · cases h; cases h'; exact ⟨rfl, rfl⟩
    · have := (r.mem h').1; cases h; omega
    · have := (r.mem h).1; cases h'; omega
    · exact r.apart h h' a1 a2 a3 a4
/-- no wider block about a tile lies within -/
theorem Tl.most {b hi lo v t p j : Nat} {l : List (Nat × Nat)} (h : Tl b hi lo l) (m : (v, t) ∈ l) (hj : j ≤ b) (hd : 2 ^ j ∣ p) (h1 : lo ≤ p) (h2 : p + 2 ^ j ≤ hi + 1) (hv : p ≤ v) (hv2 : v < p + 2 ^ j) : j ≤ b - t := by
  obtain ⟨v', t', m', g1, g2⟩ := h.cover hj hd h1 h2
  obtain ⟨rfl, rfl⟩ := h.apart m m' (Nat.le_refl _) (by have := Nat.two_pow_pos (b - t); omega) (by omega) (by omega)
  rcases Nat.lt_or_ge (b - t) j with g | g
  · have := Nat.pow_lt_pow_right (a := 2) (by omega) g
    omega
  · exact g
/-- each point has its tile -/
theorem Tl.point {b hi lo x : Nat} {l : List (Nat × Nat)} (h : Tl b hi lo l) (h1 : lo ≤ x) (h2 : x ≤ hi) : ∃ v t, (v, t) ∈ l ∧ v ≤ x ∧ x < v + 2 ^ (b - t) := by
  obtain ⟨v, t, m, a, c⟩ := h.cover (p := x) (j := 0) (Nat.zero_le _) (Nat.one_dvd _) h1 (by simpa using h2)
  exact ⟨v, t, m, a, by have : 2 ^ 0 = 1 := rfl; omega⟩
theorem Tl.end_le {b hi lo v t : Nat} {l : List (Nat × Nat)} (h : Tl b hi lo l) (m : (v, t) ∈ l) : v + 2 ^ (b - t) ≤ hi + 1 := (h.mem m).2.fit.2
end M22

/-! text S22b -/
set_option Elab.async false
set_option linter.all false
set_option maxRecDepth 100000
set_option maxHeartbeats 1000000
namespace K22
open PySem PySem.Spec PyProof.Rows L2 PySem.SeqAt DL M22
theorem dec_len {b hi : Nat} : ∀ (n lo : Nat), (dec b hi n lo).length ≤ hi + 1 - lo
  | 0, lo => Nat.zero_le _
  | n + 1, lo => by
    unfold dec
    by_cases h : lo ≤ hi
    · rw [if_pos h]
      have := dec_len (b := b) (hi := hi) n (lo + 2 ^ (b - tl b lo hi b))
      have := (wd_tl (b := b) h).lt
      simp only [List.length_cons]
      omega
    · rw [if_neg h]; exact Nat.zero_le _
theorem tl_le {b lo hi : Nat} : ∀ t, tl b lo hi t ≤ t
  | 0 => Nat.le_refl _
  | t + 1 => by
    unfold tl
    split
    · exact Nat.le_succ_of_le (tl_le t)
    · exact Nat.le_refl _
theorem prefixes_ok {b lo hi : Nat} {K : OK} (h1 : 1 ≤ b) (hb : b ≤ 20) (hl : lo ≤ hi) (hh : hi < 2 ^ b) (h : K (prs (D b lo hi)) []) : F_prefixes_of [.val (.int b), .val (.int lo), .val (.int hi)] K := by
  have h2b : 2 ^ b ≤ 2 ^ 20 := Nat.pow_le_pow_right (by omega) hb
  refine ⟨rfl, ?_⟩
  unfold c_prefixes_of
  show DL.c_seq _ _ _ [.val (.int b), .val (.int lo), .val (.int hi), .un, .un]
  unfold c_prefixes_of_1 c_prefixes_of_2 c_prefixes_of_7 c_prefixes_of_8
  walk_at "dl"
  refine look_int_ok h1 hb hl hh ?_
  walk_at "dl"
  refine ⟨fun m ρ => ∃ (l : Nat) (acc : List (Nat × Nat)) (x : Slot), ρ = [.val (.int b), .val (.int l), .val (.int hi), .own 0 (.lst (acc.map pr)), x] ∧ acc ++ dec b hi m l = D b lo hi ∧ hi + 1 ≤ l + m ∧ l ≤ hi + 1 ∧ acc.length ≤ l, ⟨hi + 1 - lo, lo, [], .un, rfl, rfl, by omega, by omega, Nat.zero_le _⟩, ?_⟩
  rintro m ρ ⟨l, acc, x, rfl, e, f1, f2, f3⟩
  walk_at "dl"
  by_cases hle : l ≤ hi
  · rw [if_pos (by omega)]
    cases m with
    | zero => omega
    | succ m =>
      unfold c_prefixes_of_3 c_prefixes_of_4 c_prefixes_of_5 c_prefixes_of_6
      walk_at "dl"
      have ed : dec b hi (m + 1) l = (l, tl b l hi b) :: dec b hi m (l + 2 ^ (b - tl b l hi b)) := by
        show (if l ≤ hi then _ else _) = _
        rw [if_pos hle]
      have w := wd_tl (b := b) hle
      refine ⟨fun t ρ => ρ = [.val (.int b), .val (.int l), .val (.int hi), .own 0 (.lst (acc.map pr)), .val (.int t)] ∧ tl b l hi t = tl b l hi b ∧ t ≤ b, ⟨b, rfl, rfl, Nat.le_refl _⟩, ?_⟩
      rintro t ρ ⟨rfl, et, ht⟩
      have fin : t = tl b l hi b → ((acc.map pr).length < 16777216 ∧ F_size_under [.val (.int b), .val (.int t)] fun d x => bIAdd (.int l) d fun z => asgK 1 z [.val (.int b), .val (.int l), .val (.int hi), .own 0 (.lst (acc.map pr ++ [.tuple [.int l, .int t]])), .val (.int t)] fun ρ3 => ∃ m', m' < m + 1 ∧ ∃ (l : Nat) (acc : List (Nat × Nat)) (x : Slot), ρ3 = [.val (.int b), .val (.int l), .val (.int hi), .own 0 (.lst (acc.map pr)), x] ∧ acc ++ dec b hi m' l = D b lo hi ∧ hi + 1 ≤ l + m' ∧ l ≤ hi + 1 ∧ acc.length ≤ l) := by
        rintro rfl
        refine ⟨by rw [List.length_map]; omega, size_under_ok (by omega) ht ?_⟩
        walk_at "dl"
        have := w.lt
        refine ⟨m, by omega, l + 2 ^ (b - tl b l hi b), acc ++ [(l, tl b l hi b)], _, by rw [List.map_append, Int.natCast_add]; rfl, by rw [List.append_assoc, ← e, ed]; rfl, by omega, w.fit.2, by rw [List.length_append]; simp only [List.length_cons, List.length_nil]; omega⟩
      walk_at "dl"
      by_cases t0 : t = 0
      · subst t0
        rw [if_neg (by omega)]
        exact fin et
      · obtain ⟨u, rfl⟩ : ∃ u, t = u + 1 := ⟨t - 1, by omega⟩
        rw [if_pos (by omega), show ((u + 1 : Nat) : Int) - 1 = ((u : Nat) : Int) by omega]
        refine size_under_ok (by omega) (by omega) ?_
        walk_at "dl"
        have hp := Nat.two_pow_pos (b - u)
        refine ⟨by omega, ?_⟩
        have et' : (if Fit hi l (b - u) then tl b l hi u else u + 1) = tl b l hi b := et
        by_cases g : Fit hi l (b - u)
        · rw [if_pos g] at et'
          rw [if_pos (by have := g.1; omega)]
          refine size_under_ok (by omega) (by omega) ?_
          walk_at "dl"
          rw [if_pos (by have := g.2; omega)]
          unfold c_prefixes_of_b1
          walk_at "dl"
          exact ⟨u, by omega, by rw [show ((u + 1 : Nat) : Int) - 1 = ((u : Nat) : Int) by omega], et', by omega⟩
        · rw [if_neg g] at et'
          by_cases g1 : 2 ^ (b - u) ∣ l
          · rw [if_pos (by omega)]
            refine size_under_ok (by omega) (by omega) ?_
            walk_at "dl"
            rw [if_neg (fun z => g ⟨g1, by omega⟩)]
            exact fin et'
          · rw [if_neg (by omega)]
            exact fin et'
  · rw [if_neg (by omega)]
    walk_at "dl"
    have : dec b hi m l = [] := List.length_eq_zero_iff.mp (by have := dec_len (b := b) (hi := hi) m l; omega)
    rw [this, List.append_nil] at e
    subst e
    exact h
end K22

/-! text S22c -/
set_option Elab.async false
set_option linter.all false
set_option maxRecDepth 100000
set_option maxHeartbeats 1000000
namespace K22
open PySem PySem.Spec PyProof.Rows L2 PySem.SeqAt DL M22
/-- the source of draws -/
structure Dr where
  cells : List Int
  at_ : Nat
  big : Int
  acc : Int
  h : 0 ≤ big
def Dr.ds (r : Dr) : List Dat := [.list (r.cells.map .int), .int r.at_, .int r.big, .int r.acc]
theorem atI_map {l : List Int} {n : Nat} (h : n < l.length) : ∃ c, atI (l.map PyData.int) (n : Int) = some (.int c) := by
  rw [at_nat, List.getElem?_map, List.getElem?_eq_getElem h]
  exact ⟨_, rfl⟩
theorem draw_ok {r : Dr} {m : Int} {K : OK} (h0 : 0 < m) (hm : m < 1073741824) (h : ∀ (v : Nat) (r' : Dr), (v : Int) < m → K (.int v) [.lst r'.ds]) : F_law_draw [.ref (.lst r.ds), .val (.int m)] K := by
  obtain ⟨cells, at_, big, acc, hb⟩ := r
  have h' : ∀ (v c : Int) (a : Nat) (g : Int), 0 ≤ g → 0 ≤ v → v < m → K (.int v) [.lst [.list (cells.map .int), .int a, .int g, .int c]] := fun v c a g hg h1 h2 => by
    have := h v.toNat ⟨cells, a, g, c, hg⟩ (by omega)
    rw [Int.toNat_of_nonneg h1] at this
    exact this
  refine ⟨rfl, ?_⟩
  unfold c_law_draw
  show DL.c_seq _ _ _ [.own 1 (.lst (Dr.ds _)), .val (.int m), .un, .un]
  have hrt : ∀ d o r, Kt.rt (⟨fun ρ => outsK ρ (refPos [Arg.ref (.lst (Dr.ds ⟨cells, at_, big, acc, hb⟩)), .val (.int m)] 0) 0 (K .none), fun d ρ => outsK ρ (refPos [Arg.ref (.lst (Dr.ds ⟨cells, at_, big, acc, hb⟩)), .val (.int m)] 0) 0 (K d), fun _ => False, fun _ => False⟩ : Kt) d (.own 1 o :: r) = K d [o] := fun d o r => by walk_at "dl"
  generalize (⟨fun ρ => outsK ρ (refPos [Arg.ref (.lst (Dr.ds ⟨cells, at_, big, acc, hb⟩)), .val (.int m)] 0) 0 (K .none), fun d ρ => outsK ρ (refPos [Arg.ref (.lst (Dr.ds ⟨cells, at_, big, acc, hb⟩)), .val (.int m)] 0) 0 (K d), fun _ => False, fun _ => False⟩ : Kt) = kt at hrt ⊢
  unfold Dr.ds
  have fin : ∀ (x y : Slot) (a : Nat) (g c : Int), 0 ≤ g → c_seq c_law_draw_9 (c_seq c_law_draw_10 c_law_draw_11) kt [.own 1 (.lst [.list (cells.map .int), .int a, .int g, .int c]), .val (.int m), x, y] := fun x y a g c hb => by
    unfold c_law_draw_9
    walk_at "dl"
    by_cases hg : 0 < g
    · rw [if_pos hg]
      unfold c_law_draw_6 c_law_draw_7 c_law_draw_8
      walk_at "dl"
      refine ⟨h0, ⟨h0, hm⟩, ?_⟩
      walk_at "dl"
      rw [hrt]
      exact h' _ _ _ _ (Int.ediv_nonneg hb (by omega)) (Int.emod_nonneg _ (by omega)) (Int.emod_lt_of_pos _ h0)
    · rw [if_neg hg]
      unfold c_law_draw_10 c_law_draw_11
      walk_at "dl"
      refine ⟨.inr (by decide), by decide, ?_⟩
      walk_at "dl"
      refine ⟨by decide, h0, ?_⟩
      rw [hrt]
      exact h' _ _ _ _ hb (Int.emod_nonneg _ (by omega)) (Int.emod_lt_of_pos _ h0)
  generalize c_seq c_law_draw_9 (c_seq c_law_draw_10 c_law_draw_11) = rest at fin ⊢
  unfold c_law_draw_5
  walk_at "dl"
  by_cases hg : big = 0
  · rw [if_pos hg]
    by_cases ha : (at_ : Int) < cells.length
    · rw [List.length_map, if_pos ha]
      unfold c_law_draw_1 c_law_draw_2 c_law_draw_4
      walk_at "dl"
      obtain ⟨c, hc⟩ := atI_map (l := cells) (n := at_) (by omega)
      refine ⟨_, hc, ?_⟩
      walk_at "dl"
      refine ⟨⟨by decide, by decide, by decide⟩, ?_⟩
      walk_at "dl"
      have e1 : ((at_ : Int) + 1) = ((at_ + 1 : Nat) : Int) := by omega
      by_cases hc2 : (10 : Int) ^ (Int.toNat 18) ≤ c
      · rw [if_pos hc2]
        walk_at "dl"
        refine ⟨.inr (by decide), by decide, ?_⟩
        walk_at "dl"
        rw [e1]
        exact fin _ _ _ _ _ (Int.le_trans (by decide) hc2)
      · rw [if_neg hc2]
        walk_at "dl"
        refine ⟨.inr (by decide), by decide, ?_⟩
        walk_at "dl"
        rw [e1]
        exact fin _ _ _ _ _ hb
    · rw [List.length_map, if_neg ha]
      exact fin _ _ _ _ _ hb
  · rw [if_neg hg]
    exact fin _ _ _ _ _ hb
end K22

/-! text M22b -/
set_option linter.all false
namespace M22
/-! runs -/
def Un (l : List (Nat × Nat)) (x : Nat) : Prop := ∃ p, p ∈ l ∧ p.1 ≤ x ∧ x ≤ p.2
def NF (l : List (Nat × Nat)) : Prop := (∀ p ∈ l, p.1 ≤ p.2) ∧ l.Pairwise fun p q => p.2 + 1 < q.1
theorem Un.cons {p : Nat × Nat} {l : List (Nat × Nat)} {x : Nat} : Un (p :: l) x ↔ (p.1 ≤ x ∧ x ≤ p.2) ∨ Un l x := by
  constructor
  · rintro ⟨q, m, h⟩
    rcases List.mem_cons.mp m with rfl | m
    · exact .inl h
    · exact .inr ⟨q, m, h⟩
  · rintro (h | ⟨q, m, h⟩)
    · exact ⟨p, List.mem_cons_self .., h⟩
    · exact ⟨q, List.mem_cons_of_mem _ m, h⟩
theorem NF.tail {p : Nat × Nat} {l : List (Nat × Nat)} (h : NF (p :: l)) : NF l := ⟨fun q m => h.1 q (List.mem_cons_of_mem _ m), (List.pairwise_cons.mp h.2).2⟩
theorem NF.gap {p : Nat × Nat} {l : List (Nat × Nat)} (h : NF (p :: l)) {x : Nat} (u : Un l x) : p.2 + 1 < x := by
  obtain ⟨q, m, a, _⟩ := u
  have := (List.pairwise_cons.mp h.2).1 q m
  omega
theorem NF.uniq : ∀ {l k : List (Nat × Nat)}, NF l → NF k → (∀ x, Un l x ↔ Un k x) → l = k
  | [], [], _, _, _ => rfl
  | [], q :: k, _, h, e => by
    obtain ⟨p, m, _⟩ := (e q.1).mpr ⟨q, List.mem_cons_self .., Nat.le_refl _, h.1 q (List.mem_cons_self ..)⟩
    simp at m
  | q :: k, [], h, _, e => by
    obtain ⟨p, m, _⟩ := (e q.1).mp ⟨q, List.mem_cons_self .., Nat.le_refl _, h.1 q (List.mem_cons_self ..)⟩
    simp at m
  | (a, c) :: l, (a', c') :: k, h, g, e => by
    have h1 : a ≤ c := h.1 _ (List.mem_cons_self ..)
    have g1 : a' ≤ c' := g.1 _ (List.mem_cons_self ..)
    have lo : ∀ x, Un ((a, c) :: l) x → a ≤ x := fun x u => by
      rcases Un.cons.mp u with u | u
      · exact u.1
      · have := h.gap u; simp at this; omega
    have lo' : ∀ x, Un ((a', c') :: k) x → a' ≤ x := fun x u => by
      rcases Un.cons.mp u with u | u
      · exact u.1
      · have := g.gap u; simp at this; omega
    have e1 : a = a' := by
      have := lo' a ((e a).mp (Un.cons.mpr (.inl ⟨Nat.le_refl _, h1⟩)))
      have := lo a' ((e a').mpr (Un.cons.mpr (.inl ⟨Nat.le_refl _, g1⟩)))
      omega
    subst e1
    have e2 : c = c' := by
      rcases Nat.lt_trichotomy c c' with z | z | z
      · rcases Un.cons.mp ((e (c + 1)).mpr (Un.cons.mpr (.inl ⟨by omega, z⟩))) with u | u
        · simp at u; omega
        · have := h.gap u; simp at this
      · exact z
      · rcases Un.cons.mp ((e (c' + 1)).mp (Un.cons.mpr (.inl ⟨by omega, z⟩))) with u | u
        · simp at u; omega
        · have := g.gap u; simp at this
    subst e2
    have : l = k := NF.uniq h.tail g.tail fun x => by
      constructor
      · intro u
        have q := h.gap u
        rcases Un.cons.mp ((e x).mp (Un.cons.mpr (.inr u))) with v | v
        · simp at q; omega
        · exact v
      · intro u
        have q := g.gap u
        rcases Un.cons.mp ((e x).mpr (Un.cons.mpr (.inr u))) with v | v
        · simp at q; omega
        · exact v
    rw [this]
def rpush (acc : List (Nat × Nat)) (p : Nat × Nat) : List (Nat × Nat) := match acc with
  | [] => [p]
  | l :: r => if p.1 ≤ l.2 + 1 then (l.1, max l.2 p.2) :: r else p :: l :: r
def leP (p q : Nat × Nat) : Bool := !decide (q.1 < p.1 ∨ q.1 = p.1 ∧ q.2 < p.2)
theorem leP_iff {p q : Nat × Nat} : leP p q = true ↔ p.1 < q.1 ∨ p.1 = q.1 ∧ p.2 ≤ q.2 := by
  unfold leP
  rw [Bool.not_eq_true', decide_eq_false_iff_not]
  omega
def sortP (l : List (Nat × Nat)) : List (Nat × Nat) := l.mergeSort leP
theorem leP_trans (a b c : Nat × Nat) (h : leP a b = true) (g : leP b c = true) : leP a c = true := by
  rw [leP_iff] at *; omega
theorem leP_total (a b : Nat × Nat) : (leP a b || leP b a) = true := by
  rw [Bool.or_eq_true, leP_iff, leP_iff]; omega
theorem sortP_sorted (l : List (Nat × Nat)) : (sortP l).Pairwise fun p q => p.1 ≤ q.1 :=
  (List.pairwise_mergeSort leP_trans leP_total l).imp fun h => by
    have := leP_iff.mp h; omega
theorem sortP_mem {l : List (Nat × Nat)} {p : Nat × Nat} : p ∈ sortP l ↔ p ∈ l := (List.mergeSort_perm l leP).mem_iff
def runs (l : List (Nat × Nat)) : List (Nat × Nat) := ((sortP l).foldl rpush []).reverse
/-- reversed normal form -/
def NR (l : List (Nat × Nat)) : Prop := (∀ p ∈ l, p.1 ≤ p.2) ∧ l.Pairwise fun p q => q.2 + 1 < p.1
theorem NR.push {acc : List (Nat × Nat)} {p : Nat × Nat} (h : NR acc) (hp : p.1 ≤ p.2) (hs : ∀ q ∈ acc, q.1 ≤ p.1) : NR (rpush acc p) ∧ (∀ q ∈ rpush acc p, q.1 ≤ p.1) ∧ ∀ x, Un (rpush acc p) x ↔ Un acc x ∨ (p.1 ≤ x ∧ x ≤ p.2) := by
  cases acc with
  | nil =>
    refine ⟨⟨fun q m => by simp [rpush] at m; subst m; exact hp, by simp [rpush]⟩, fun q m => by simp [rpush] at m; subst m; exact Nat.le_refl _, fun x => ?_⟩
    rw [show rpush [] p = [p] from rfl, Un.cons]
    constructor
    · rintro (h | ⟨q, m, _⟩)
      · exact .inr h
      · simp at m
    · rintro (⟨q, m, _⟩ | h)
      · simp at m
      · exact .inl h
  | cons l r =>
    have hl := hs l (List.mem_cons_self ..)
    have hl2 := h.1 l (List.mem_cons_self ..)
    obtain ⟨k1, k2⟩ := List.pairwise_cons.mp h.2
    have ep : rpush (l :: r) p = if p.1 ≤ l.2 + 1 then (l.1, max l.2 p.2) :: r else p :: l :: r := rfl
    rw [ep]
    by_cases g : p.1 ≤ l.2 + 1
    · rw [if_pos g]
      refine ⟨⟨fun q m => ?_, List.pairwise_cons.mpr ⟨k1, k2⟩⟩, fun q m => ?_, fun x => ?_⟩
      · rcases List.mem_cons.mp m with rfl | m
        · show l.1 ≤ max l.2 p.2; omega
        · exact h.1 q (List.mem_cons_of_mem _ m)
      · rcases List.mem_cons.mp m with rfl | m
        · exact hl
        · exact hs q (List.mem_cons_of_mem _ m)
      · rw [Un.cons, Un.cons]
        constructor
        · rintro (⟨a, c⟩ | u)
          · have c : x ≤ max l.2 p.2 := c
            have a : l.1 ≤ x := a
            rcases Nat.lt_or_ge l.2 x with z | z
            · exact .inr ⟨by omega, by omega⟩
            · exact .inl (.inl ⟨a, z⟩)
          · exact .inl (.inr u)
        · rintro ((⟨a, c⟩ | u) | ⟨a, c⟩)
          · exact .inl ⟨a, by show x ≤ max l.2 p.2; omega⟩
          · exact .inr u
          · exact .inl ⟨by show l.1 ≤ x; omega, by show x ≤ max l.2 p.2; omega⟩
    · rw [if_neg g]
      refine ⟨⟨fun q m => ?_, List.pairwise_cons.mpr ⟨fun q m => ?_, h.2⟩⟩, fun q m => ?_, fun x => ?_⟩
      · rcases List.mem_cons.mp m with rfl | m
        · exact hp
        · exact h.1 q m
      · rcases List.mem_cons.mp m with rfl | m
        · omega
        · have := k1 q m; have := h.1 q (List.mem_cons_of_mem _ m); omega
      · rcases List.mem_cons.mp m with rfl | m
        · exact Nat.le_refl _
        · exact hs q m
      · rw [Un.cons]
        exact Or.comm
theorem NR.fold : ∀ {l acc : List (Nat × Nat)}, NR acc → (∀ p ∈ l, p.1 ≤ p.2) → (∀ q ∈ acc, ∀ p ∈ l, q.1 ≤ p.1) → l.Pairwise (fun p q => p.1 ≤ q.1) → NR (l.foldl rpush acc) ∧ ∀ x, Un (l.foldl rpush acc) x ↔ Un acc x ∨ Un l x
  | [], acc, h, _, _, _ => ⟨h, fun x => by
    constructor
    · exact .inl
    · rintro (u | ⟨q, m, _⟩)
      · exact u
      · simp at m⟩
  | p :: l, acc, h, h1, h2, h3 => by
    obtain ⟨k1, k2⟩ := List.pairwise_cons.mp h3
    obtain ⟨a1, a2, a3⟩ := h.push (h1 p (List.mem_cons_self ..)) fun q m => h2 q m p (List.mem_cons_self ..)
    obtain ⟨b1, b2⟩ := NR.fold a1 (fun q m => h1 q (List.mem_cons_of_mem _ m)) (fun q m p' m' => Nat.le_trans (a2 q m) (k1 p' m')) k2
    refine ⟨b1, fun x => ?_⟩
    rw [List.foldl_cons, b2, a3, Un.cons, or_assoc]
theorem runs_ok {l : List (Nat × Nat)} (h : ∀ p ∈ l, p.1 ≤ p.2) : NF (runs l) ∧ ∀ x, Un (runs l) x ↔ Un l x := by
  obtain ⟨a, c⟩ := NR.fold (l := sortP l) (acc := []) ⟨fun p m => by simp at m, List.Pairwise.nil⟩ (fun p m => h p (sortP_mem.mp m)) (fun q m => by simp at m) (sortP_sorted l)
  unfold runs
  refine ⟨⟨fun p m => a.1 p (List.mem_reverse.mp m), List.pairwise_reverse.mpr a.2⟩, fun x => ?_⟩
  have e : Un ((sortP l).foldl rpush []).reverse x ↔ Un ((sortP l).foldl rpush []) x := by
    unfold Un; simp only [List.mem_reverse]
  rw [e, c]
  constructor
  · rintro (⟨q, m, _⟩ | ⟨q, m, u⟩)
    · simp at m
    · exact ⟨q, sortP_mem.mp m, u⟩
  · rintro ⟨q, m, u⟩
    exact .inr ⟨q, sortP_mem.mpr m, u⟩
theorem runs_eq {l k : List (Nat × Nat)} (h : ∀ p ∈ l, p.1 ≤ p.2) (g : ∀ p ∈ k, p.1 ≤ p.2) (e : ∀ x, Un l x ↔ Un k x) : runs l = runs k :=
  (runs_ok h).1.uniq (runs_ok g).1 fun x => by rw [(runs_ok h).2, (runs_ok g).2, e]
theorem runs_nf {l k : List (Nat × Nat)} (h : ∀ p ∈ l, p.1 ≤ p.2) (g : NF k) (e : ∀ x, Un l x ↔ Un k x) : runs l = k :=
  (runs_ok h).1.uniq g fun x => by rw [(runs_ok h).2, e]
/-! blocks -/
def iv (b : Nat) (p : Nat × Nat) : Nat × Nat := (p.1, p.1 + 2 ^ (b - p.2) - 1)
theorem iv_le {b : Nat} {p : Nat × Nat} : (iv b p).1 ≤ (iv b p).2 := by
  have := Nat.two_pow_pos (b - p.2)
  show p.1 ≤ p.1 + 2 ^ (b - p.2) - 1
  omega
theorem ivs_le {b : Nat} {l : List (Nat × Nat)} : ∀ p ∈ l.map (iv b), p.1 ≤ p.2 := fun p m => by
  obtain ⟨q, _, rfl⟩ := List.mem_map.mp m
  exact iv_le
/-- the points of some blocks -/
def Pt (b : Nat) (l : List (Nat × Nat)) (x : Nat) : Prop := ∃ p, p ∈ l ∧ p.1 ≤ x ∧ x < p.1 + 2 ^ (b - p.2)
theorem un_iv {b : Nat} {l : List (Nat × Nat)} {x : Nat} : Un (l.map (iv b)) x ↔ Pt b l x := by
  constructor
  · rintro ⟨p, m, u⟩
    obtain ⟨q, m', rfl⟩ := List.mem_map.mp m
    have := Nat.two_pow_pos (b - q.2)
    have u2 : x ≤ q.1 + 2 ^ (b - q.2) - 1 := u.2
    exact ⟨q, m', u.1, by omega⟩
  · rintro ⟨q, m, u⟩
    exact ⟨iv b q, List.mem_map.mpr ⟨q, m, rfl⟩, u.1, by show x ≤ q.1 + 2 ^ (b - q.2) - 1; omega⟩
theorem Tl.pts {b hi lo : Nat} {l : List (Nat × Nat)} (h : Tl b hi lo l) (x : Nat) : Pt b l x ↔ lo ≤ x ∧ x ≤ hi := by
  constructor
  · rintro ⟨⟨v, t⟩, m, a, c⟩
    have h1 := (h.mem m).1
    have h2 := h.end_le m
    have a : v ≤ x := a
    have c : x < v + 2 ^ (b - t) := c
    omega
  · rintro ⟨a, c⟩
    obtain ⟨v, t, m, g⟩ := h.point a c
    exact ⟨(v, t), m, g⟩
/-- the joined prefixes -/
def J (b : Nat) (l : List (Nat × Nat)) : List (Nat × Nat) := (runs (l.map (iv b))).flatMap fun r => D b r.1 r.2
theorem J_eq {b : Nat} {l k : List (Nat × Nat)} (e : ∀ x, Pt b l x ↔ Pt b k x) : J b l = J b k := by
  unfold J
  rw [runs_eq (l := l.map (iv b)) (k := k.map (iv b)) ivs_le ivs_le fun x => by rw [un_iv, un_iv, e]]
theorem J_one {b lo hi : Nat} {l : List (Nat × Nat)} (h : lo ≤ hi) (e : ∀ x, Pt b l x ↔ lo ≤ x ∧ x ≤ hi) : J b l = D b lo hi := by
  unfold J
  rw [runs_nf (k := [(lo, hi)]) ivs_le ⟨fun p m => by simp at m; subst m; exact h, List.pairwise_singleton ..⟩ fun x => by
    rw [un_iv, e, Un.cons]
    constructor
    · exact .inl
    · rintro (u | ⟨q, m, _⟩)
      · exact u
      · simp at m]
  simp
theorem J_pts {b : Nat} {l : List (Nat × Nat)} (x : Nat) : Pt b (J b l) x ↔ Pt b l x := by
  have r := runs_ok (l := l.map (iv b)) ivs_le
  have e := (r.2 x).trans un_iv
  rw [← e]
  unfold J
  constructor
  · rintro ⟨p, m, u⟩
    obtain ⟨q, m, k⟩ := List.mem_flatMap.mp m
    have hq := r.1.1 q m
    have := ((D_tl (b := b) (by omega : q.1 ≤ q.2 + 1)).pts x).mp ⟨p, k, u⟩
    exact ⟨q, m, this⟩
  · rintro ⟨q, m, u⟩
    have hq := r.1.1 q m
    obtain ⟨p, k, w⟩ := ((D_tl (b := b) (by omega : q.1 ≤ q.2 + 1)).pts x).mpr u
    exact ⟨p, List.mem_flatMap.mpr ⟨q, m, k⟩, w⟩
theorem J_J {b : Nat} {l : List (Nat × Nat)} : J b (J b l) = J b l := J_eq fun x => J_pts x
theorem Pt_append {b : Nat} {l k : List (Nat × Nat)} {x : Nat} : Pt b (l ++ k) x ↔ Pt b l x ∨ Pt b k x := by
  unfold Pt
  constructor
  · rintro ⟨p, m, u⟩
    rcases List.mem_append.mp m with m | m
    · exact .inl ⟨p, m, u⟩
    · exact .inr ⟨p, m, u⟩
  · rintro (⟨p, m, u⟩ | ⟨p, m, u⟩)
    · exact ⟨p, List.mem_append_left _ m, u⟩
    · exact ⟨p, List.mem_append_right _ m, u⟩
theorem J_twice {b : Nat} {l : List (Nat × Nat)} : J b (l ++ l) = J b l := J_eq fun x => by rw [Pt_append, or_self]
theorem J_perm {b : Nat} {l k : List (Nat × Nat)} (h : l.Perm k) : J b l = J b k := J_eq fun x => by
  unfold Pt; simp only [h.mem_iff]
theorem J_two {b lo mid hi : Nat} (h1 : lo ≤ mid) (h2 : mid < hi) : J b (D b lo mid ++ D b (mid + 1) hi) = D b lo hi := J_one (by omega) fun x => by
  rw [Pt_append, (D_tl (b := b) (by omega : lo ≤ mid + 1)).pts, (D_tl (b := b) (by omega : mid + 1 ≤ hi + 1)).pts]
  omega
end M22

/-! text M22c -/
set_option linter.all false
namespace M22
theorem Fit_dbl {hi lo j : Nat} : Fit (2 * hi + 1) (2 * lo) (j + 1) ↔ Fit hi lo j := by
  unfold Fit
  rw [Nat.pow_succ, Nat.mul_comm (2 ^ j) 2, Nat.mul_dvd_mul_iff_left (by omega)]
  constructor <;> rintro ⟨a, c⟩ <;> exact ⟨a, by omega⟩
theorem Tl.dbl {b hi : Nat} : ∀ {l : List (Nat × Nat)} {lo : Nat}, Tl b hi lo l → Tl (b + 1) (2 * hi + 1) (2 * lo) (l.map fun p => (2 * p.1, p.2))
  | _, _, .nil => by
    rw [show 2 * (hi + 1) = 2 * hi + 1 + 1 by omega]
    exact .nil
  | _, lo, .cons (t := t) w r => by
    have hl := w.le
    have e : b + 1 - t = b - t + 1 := by omega
    refine .cons ⟨by omega, by rw [e]; exact Fit_dbl.mpr w.fit, ?_⟩ ?_
    · rcases w.top with h | h
      · exact .inl h
      · exact .inr fun z => h (Fit_dbl.mp (by rw [e] at z; exact z))
    · have := r.dbl
      rw [show 2 * (lo + 2 ^ (b - t)) = 2 * lo + 2 ^ (b + 1 - t) by rw [e, Nat.pow_succ]; omega] at this
      exact this
theorem D_dbl {b lo hi : Nat} (h : lo ≤ hi) : (D b lo hi).map (fun p => (2 * p.1, p.2)) = D (b + 1) (2 * lo) (2 * hi + 1) := (D_tl (by omega : lo ≤ hi + 1)).dbl.eqD
theorem Wd.shift {b hi lo t : Nat} (h : hi < 2 ^ b) (w : Wd b hi lo t) : Wd (b + 1) (hi + 2 ^ b) (lo + 2 ^ b) (t + 1) := by
  have hl := w.le
  have e : b + 1 - (t + 1) = b - t := by omega
  have f := w.fit
  refine ⟨by omega, by rw [e]; exact ⟨Nat.dvd_add f.1 (pow_dvd (by omega)), by have := f.2; omega⟩, .inr fun z => ?_⟩
  rw [e] at z
  rcases w.top with h0 | h0
  · subst h0
    have := z.2
    have h2 : 2 ^ (b - 0 + 1) = 2 * 2 ^ b := by rw [Nat.sub_zero, Nat.pow_succ, Nat.mul_comm]
    omega
  · rcases Nat.eq_or_lt_of_le (Nat.zero_le t) with h1 | h1
    · subst h1
      have := z.2
      have h2 : 2 ^ (b - 0 + 1) = 2 * 2 ^ b := by rw [Nat.sub_zero, Nat.pow_succ, Nat.mul_comm]
      omega
    · exact h0 ⟨(Nat.dvd_add_left (pow_dvd (by omega))).mp z.1, by have := z.2; omega⟩
theorem Tl.shift {b hi : Nat} (h : hi < 2 ^ b) : ∀ {l : List (Nat × Nat)} {lo : Nat}, Tl b hi lo l → Tl (b + 1) (hi + 2 ^ b) (lo + 2 ^ b) (l.map fun p => (p.1 + 2 ^ b, p.2 + 1))
  | _, _, .nil => by
    rw [show hi + 1 + 2 ^ b = hi + 2 ^ b + 1 by omega]
    exact .nil
  | _, lo, .cons (t := t) w r => by
    refine .cons (w.shift h) ?_
    have := r.shift h
    have hl := w.le
    rw [show b + 1 - (t + 1) = b - t by omega, show lo + 2 ^ b + 2 ^ (b - t) = lo + 2 ^ (b - t) + 2 ^ b by omega]
    exact this
theorem D_shift {b lo hi : Nat} (h : lo ≤ hi) (hh : hi < 2 ^ b) : (D b lo hi).map (fun p => (p.1 + 2 ^ b, p.2 + 1)) = D (b + 1) (lo + 2 ^ b) (hi + 2 ^ b) := ((D_tl (by omega : lo ≤ hi + 1)).shift hh).eqD
/-- the left half -/
theorem Wd.left {b hi mid lo t : Nat} (h : mid < 2 ^ b) (hm : mid ≤ hi) (w : Wd b mid lo t) (hw : lo = 0 → hi + 1 < 2 ^ (b + 1)) (he : mid = hi ∨ mid + 1 = 2 ^ b) : Wd (b + 1) hi lo (t + 1) := by
  have hl := w.le
  have e : b + 1 - (t + 1) = b - t := by omega
  have f := w.fit
  have hlt := w.lt
  refine ⟨by omega, by rw [e]; exact ⟨f.1, by have := f.2; omega⟩, .inr fun z => ?_⟩
  rw [e] at z
  rcases Nat.eq_or_lt_of_le (Nat.zero_le t) with h1 | h1
  · subst h1
    rw [Nat.sub_zero] at z
    have z0 : lo = 0 := Nat.eq_zero_of_dvd_of_lt z.1 (by rw [Nat.pow_succ]; omega)
    have := z.2
    have := hw z0
    omega
  · rcases w.top with h0 | h0
    · omega
    · refine h0 ⟨z.1, ?_⟩
      rcases he with he | he
      · have := z.2; omega
      · have n := nest (i := b - t + 1) (j := b) (p := lo) (v := 0) (by omega) z.1 (Nat.dvd_zero _) (by omega) (by have := Nat.two_pow_pos (b - t + 1); omega)
        omega
theorem Tl.left {b hi mid : Nat} (h : mid < 2 ^ b) (hm : mid ≤ hi) (he : mid = hi ∨ mid + 1 = 2 ^ b) {k : List (Nat × Nat)} (hk : Tl (b + 1) hi (mid + 1) k) : ∀ {l : List (Nat × Nat)} {lo : Nat}, (lo = 0 → hi + 1 < 2 ^ (b + 1)) → Tl b mid lo l → Tl (b + 1) hi lo ((l.map fun p => (p.1, p.2 + 1)) ++ k)
  | _, _, hw, .nil => hk
  | _, lo, hw, .cons (t := t) w r => by
    have hl := w.le
    refine .cons (w.left h hm hw he) ?_
    have := Tl.left h hm he hk (fun z => by have := w.lt; omega) r
    rw [show b + 1 - (t + 1) = b - t by omega]
    exact this
theorem D_left {b lo hi : Nat} (h : lo ≤ hi) (hh : hi < 2 ^ b) : D (b + 1) lo hi = (D b lo hi).map fun p => (p.1, p.2 + 1) := by
  have := (Tl.left (b := b) hh (Nat.le_refl _) (.inl rfl) (k := []) .nil (fun _ => by rw [Nat.pow_succ]; omega) (D_tl (by omega : lo ≤ hi + 1))).eqD
  rw [List.append_nil] at this
  exact this.symm
theorem D_both {b lo hi : Nat} (h : lo < 2 ^ b) (hh : 2 ^ b ≤ hi) (h2 : hi < 2 ^ (b + 1)) (hw : ¬ (lo = 0 ∧ hi + 1 = 2 ^ (b + 1))) : D (b + 1) lo hi = ((D b lo (2 ^ b - 1)).map fun p => (p.1, p.2 + 1)) ++ (D b 0 (hi - 2 ^ b)).map fun p => (p.1 + 2 ^ b, p.2 + 1) := by
  have hp : 2 ^ (b + 1) = 2 * 2 ^ b := by rw [Nat.pow_succ, Nat.mul_comm]
  have k := (D_tl (b := b) (by omega : 0 ≤ hi - 2 ^ b + 1)).shift (by omega)
  rw [show hi - 2 ^ b + 2 ^ b = hi by omega, Nat.zero_add] at k
  have k' : Tl (b + 1) hi (2 ^ b - 1 + 1) ((D b 0 (hi - 2 ^ b)).map fun p => (p.1 + 2 ^ b, p.2 + 1)) := by
    rw [show 2 ^ b - 1 + 1 = 2 ^ b by omega]; exact k
  exact (Tl.left (b := b) (mid := 2 ^ b - 1) (by omega) (by omega) (.inr (by omega)) k' (fun z => by omega) (D_tl (by omega : lo ≤ 2 ^ b - 1 + 1))).eqD.symm
theorem D_whole {b : Nat} : D b 0 (2 ^ b - 1) = [(0, 0)] := by
  have hp := Nat.two_pow_pos b
  have e : 0 + 2 ^ (b - 0) = 2 ^ b - 1 + 1 := by rw [Nat.sub_zero]; omega
  have : Tl b (2 ^ b - 1) 0 [(0, 0)] := .cons ⟨Nat.zero_le _, ⟨Nat.dvd_zero _, by omega⟩, .inl rfl⟩ (by rw [e]; exact .nil)
  exact this.eqD.symm
theorem len_low : ∀ {b hi : Nat}, hi < 2 ^ b → (D b 0 hi).length ≤ max 1 b
  | 0, hi, h => by
    obtain rfl : hi = 2 ^ 0 - 1 := by omega
    rw [D_whole]; exact Nat.le_max_left 1 _
  | b + 1, hi, h => by
    have hp : 2 ^ (b + 1) = 2 * 2 ^ b := by rw [Nat.pow_succ, Nat.mul_comm]
    have hp0 := Nat.two_pow_pos b
    rcases Nat.lt_or_ge hi (2 ^ b) with g | g
    · rw [D_left (by omega) g, List.length_map]
      have := len_low (b := b) g
      omega
    · by_cases w : hi + 1 = 2 ^ (b + 1)
      · obtain rfl : hi = 2 ^ (b + 1) - 1 := by omega
        rw [D_whole]; exact Nat.le_max_left 1 _
      · rw [D_both hp0 g h (fun z => w z.2), List.length_append, List.length_map, List.length_map, D_whole]
        have := len_low (b := b) (hi := hi - 2 ^ b) (by omega)
        rcases Nat.eq_zero_or_pos b with z | z
        · subst z; simp at g h w; omega
        · simp only [List.length_cons, List.length_nil]; omega
theorem len_high : ∀ {b lo : Nat}, lo < 2 ^ b → (D b lo (2 ^ b - 1)).length ≤ max 1 b
  | 0, lo, h => by
    obtain rfl : lo = 0 := by omega
    rw [D_whole]; exact Nat.le_max_left 1 _
  | b + 1, lo, h => by
    have hp : 2 ^ (b + 1) = 2 * 2 ^ b := by rw [Nat.pow_succ, Nat.mul_comm]
    have hp0 := Nat.two_pow_pos b
    rcases Nat.lt_or_ge lo (2 ^ b) with g | g
    · by_cases w : lo = 0
      · subst w
        rw [D_whole]; exact Nat.le_max_left 1 _
      · rw [D_both g (by omega) (by omega) (fun z => w z.1), List.length_append, List.length_map, List.length_map, show 2 ^ (b + 1) - 1 - 2 ^ b = 2 ^ b - 1 by omega, D_whole]
        have := len_high (b := b) g
        rcases Nat.eq_zero_or_pos b with z | z
        · subst z; simp at g; omega
        · simp only [List.length_cons, List.length_nil]; omega
    · have := D_shift (b := b) (lo := lo - 2 ^ b) (hi := 2 ^ b - 1) (by omega) (by omega)
      rw [show lo - 2 ^ b + 2 ^ b = lo by omega, show 2 ^ b - 1 + 2 ^ b = 2 ^ (b + 1) - 1 by omega] at this
      rw [← this, List.length_map]
      have := len_high (b := b) (lo := lo - 2 ^ b) (by omega)
      omega
theorem len_all : ∀ {b lo hi : Nat}, lo ≤ hi → hi < 2 ^ b → (D b lo hi).length ≤ max 1 (2 * b - 2)
  | 0, lo, hi, h0, h => by
    obtain rfl : hi = 2 ^ 0 - 1 := by omega
    obtain rfl : lo = 0 := by omega
    rw [D_whole]; exact Nat.le_max_left 1 _
  | b + 1, lo, hi, h0, h => by
    have hp : 2 ^ (b + 1) = 2 * 2 ^ b := by rw [Nat.pow_succ, Nat.mul_comm]
    have hp0 := Nat.two_pow_pos b
    rcases Nat.lt_or_ge hi (2 ^ b) with g | g
    · rw [D_left h0 g, List.length_map]
      have := len_all (b := b) h0 g
      omega
    · rcases Nat.lt_or_ge lo (2 ^ b) with f | f
      · by_cases w : lo = 0 ∧ hi + 1 = 2 ^ (b + 1)
        · obtain ⟨rfl, w⟩ := w
          obtain rfl : hi = 2 ^ (b + 1) - 1 := by omega
          rw [D_whole]; exact Nat.le_max_left 1 _
        · rw [D_both f g h w, List.length_append, List.length_map, List.length_map]
          have := len_low (b := b) (hi := hi - 2 ^ b) (by omega)
          have := len_high (b := b) f
          rcases Nat.eq_zero_or_pos b with z | z
          · subst z; simp at g h w f; omega
          · omega
      · have := D_shift (b := b) (lo := lo - 2 ^ b) (hi := hi - 2 ^ b) (by omega) (by omega)
        rw [show lo - 2 ^ b + 2 ^ b = lo by omega, show hi - 2 ^ b + 2 ^ b = hi by omega] at this
        rw [← this, List.length_map]
        have := len_all (b := b) (lo := lo - 2 ^ b) (hi := hi - 2 ^ b) (by omega) (by omega)
        omega
/-! the fewest -/
inductive Al (b hi : Nat) : Nat → List (Nat × Nat) → Prop
  | nil : Al b hi (hi + 1) []
  | cons {lo t : Nat} {l : List (Nat × Nat)} : t ≤ b → Fit hi lo (b - t) → Al b hi (lo + 2 ^ (b - t)) l → Al b hi lo ((lo, t) :: l)
theorem Al.drop {b hi lo T : Nat} (w : Wd b hi lo T) : ∀ {l : List (Nat × Nat)} {p : Nat}, Al b hi p l → lo ≤ p → p ≤ lo + 2 ^ (b - T) → ∃ l', Al b hi (lo + 2 ^ (b - T)) l' ∧ l'.length ≤ l.length ∧ (p < lo + 2 ^ (b - T) → l'.length < l.length)
  | _, _, .nil, h1, h2 => by
    have := w.fit.2
    refine ⟨[], ?_, Nat.le_refl _, fun z => by omega⟩
    rw [show lo + 2 ^ (b - T) = hi + 1 by omega]
    exact .nil
  | _, p, .cons (t := t) (l := l) ht f r, h1, h2 => by
    rcases Nat.lt_or_ge p (lo + 2 ^ (b - T)) with g | g
    · have hp := Nat.two_pow_pos (b - t)
      have key : p + 2 ^ (b - t) ≤ lo + 2 ^ (b - T) := by
        rcases Nat.lt_or_ge (b - T) (b - t) with k | k
        · have n := nest (Nat.le_of_lt k) w.fit.1 f.1 (by omega) g
          obtain rfl : p = lo := by omega
          have := w.big (by omega) f
          omega
        · exact (nest k f.1 w.fit.1 g (by omega)).2
      obtain ⟨l', a1, a2, _⟩ := Al.drop w r (by omega) key
      exact ⟨l', a1, by simp only [List.length_cons]; omega, fun _ => by simp only [List.length_cons]; omega⟩
    · obtain rfl : p = lo + 2 ^ (b - T) := by omega
      exact ⟨_, .cons ht f r, Nat.le_refl _, fun z => by omega⟩
theorem Tl.fewest {b hi : Nat} : ∀ {k l : List (Nat × Nat)} {lo : Nat}, Tl b hi lo k → Al b hi lo l → k.length ≤ l.length
  | _, _, _, .nil, _ => Nat.zero_le _
  | _, _, lo, .cons w r, a => by
    obtain ⟨l', a1, _, a3⟩ := a.drop w (Nat.le_refl _) (Nat.le_add_right _ _)
    have := r.fewest a1
    have := a3 w.lt.2
    simp only [List.length_cons]
    omega
theorem Tl.al {b hi mid : Nat} {k : List (Nat × Nat)} (hm : mid ≤ hi) (hk : Al b hi (mid + 1) k) : ∀ {l : List (Nat × Nat)} {lo : Nat}, Tl b mid lo l → Al b hi lo (l ++ k)
  | _, _, .nil => hk
  | _, _, .cons w r => .cons w.le ⟨w.fit.1, by have := w.fit.2; omega⟩ (Tl.al hm hk r)
theorem D_sub {b lo mid hi : Nat} (h1 : lo ≤ mid) (h2 : mid < hi) : (D b lo hi).length ≤ (D b lo mid).length + (D b (mid + 1) hi).length := by
  have k := Tl.al (Nat.le_refl hi) .nil (D_tl (b := b) (by omega : mid + 1 ≤ hi + 1))
  rw [List.append_nil] at k
  have := (D_tl (b := b) (by omega : lo ≤ hi + 1)).fewest (Tl.al (by omega) k (D_tl (b := b) (by omega : lo ≤ mid + 1)))
  rw [List.length_append] at this
  exact this
/-! side by side -/
theorem Tl.inv {b hi lo v t : Nat} {l : List (Nat × Nat)} (h : Tl b hi lo ((v, t) :: l)) : lo = v ∧ Wd b hi v t ∧ Tl b hi (v + 2 ^ (b - t)) l := by
  cases h with
  | cons w r => exact ⟨rfl, w, r⟩
theorem Tl.inv0 {b hi lo : Nat} (h : Tl b hi lo []) : lo = hi + 1 := by cases h; rfl
theorem Tl.chain {b hi : Nat} : ∀ {l : List (Nat × Nat)} {lo : Nat}, Tl b hi lo l → l.dropLast.map (fun p => p.1 + 2 ^ (b - p.2)) = (l.drop 1).map (·.1)
  | [], _, _ => rfl
  | [_], _, _ => rfl
  | (v, t) :: (v', t') :: r, _, h => by
    obtain ⟨_, _, h2⟩ := h.inv
    have e := h2.inv.1
    have := h2.chain
    simp only [List.dropLast_cons₂, List.map_cons, List.drop_succ_cons, List.drop_zero] at this ⊢
    rw [this, e]
theorem Tl.head {b hi lo : Nat} {l : List (Nat × Nat)} (h : Tl b hi lo l) (hl : lo ≤ hi) : ∃ t r, l = (lo, t) :: r := by
  cases h with
  | nil => omega
  | cons w r => exact ⟨_, _, rfl⟩
theorem Tl.last {b hi : Nat} : ∀ {l : List (Nat × Nat)} {lo : Nat}, Tl b hi lo l → lo ≤ hi → ∃ r v t, l = r ++ [(v, t)] ∧ v + 2 ^ (b - t) = hi + 1
  | [], _, h, g => by have := h.inv0; omega
  | (v, t) :: l, lo, h, g => by
    obtain ⟨rfl, w, r⟩ := h.inv
    rcases Nat.lt_or_ge hi (lo + 2 ^ (b - t)) with g | g
    · have := w.fit.2
      have e : lo + 2 ^ (b - t) = hi + 1 := by omega
      cases l with
      | nil => exact ⟨[], lo, t, rfl, e⟩
      | cons p l' => have := r.inv.1; have := r.inv.2.1.lt; omega
    · obtain ⟨r', v, t', e, f⟩ := r.last g
      exact ⟨(lo, t) :: r', v, t', by rw [e]; rfl, f⟩
/-- the next wider block is not within -/
theorem Tl.wide {b hi lo v t : Nat} {l : List (Nat × Nat)} (h : Tl b hi lo l) (m : (v, t) ∈ l) (ht : 0 < t) : ¬ (lo ≤ v / 2 ^ (b - t + 1) * 2 ^ (b - t + 1) ∧ v / 2 ^ (b - t + 1) * 2 ^ (b - t + 1) + 2 ^ (b - t + 1) ≤ hi + 1) := fun ⟨h1, h2⟩ => by
  have hp := Nat.two_pow_pos (b - t + 1)
  have e1 := Nat.div_mul_le_self v (2 ^ (b - t + 1))
  have e2 := Nat.lt_div_mul_add (a := v) hp
  have hl := (h.mem m).2.le
  have := h.most m (j := b - t + 1) (by omega) (Nat.dvd_mul_left _ _) h1 h2 e1 e2
  omega
/-- a block about two tiles is not within -/
theorem Tl.about {b hi lo v t v' u : Nat} {l : List (Nat × Nat)} (h : Tl b hi lo l) (m : (v, t) ∈ l) (hu : u ≤ b) (hv : v + 2 ^ (b - t) ≤ v') (e : v / 2 ^ (b - u) = v' / 2 ^ (b - u)) : ¬ (lo ≤ v / 2 ^ (b - u) * 2 ^ (b - u) ∧ v / 2 ^ (b - u) * 2 ^ (b - u) + 2 ^ (b - u) ≤ hi + 1) := fun ⟨h1, h2⟩ => by
  have hp := Nat.two_pow_pos (b - u)
  have e1 := Nat.div_mul_le_self v (2 ^ (b - u))
  have e2 := Nat.lt_div_mul_add (a := v) hp
  have e3 := Nat.lt_div_mul_add (a := v') hp
  have k := h.most m (j := b - u) (by omega) (Nat.dvd_mul_left _ _) h1 h2 e1 e2
  have f := (h.mem m).2.fit
  have d : 2 ^ (b - u) ∣ v := Nat.dvd_trans (pow_dvd k) f.1
  have e4 := Nat.div_mul_cancel d
  have e5 := Nat.pow_le_pow_right (n := 2) (by omega) k
  rw [← e] at e3
  omega
end M22

/-! text S22d -/
set_option Elab.async false
set_option linter.all false
set_option maxRecDepth 100000
set_option maxHeartbeats 1000000
namespace K22
open PySem PySem.Spec PyProof.Rows L2 PySem.SeqAt DL M22
/-- plain data, to a depth -/
def Pl : Nat → Dat → Prop
  | 0, _ => False
  | n + 1, d => match d with
    | .int _ => True
    | .none => True
    | .bool _ => True
    | .str _ => True
    | .tuple ds => ds.length ≤ 16777216 ∧ ∀ x ∈ ds, Pl n x
    | .list ds => ds.length ≤ 16777216 ∧ ∀ x ∈ ds, Pl n x
    | _ => False
theorem same_refl : ∀ (n : Nat) {d : Dat} {K : OK}, Pl n d → K (.bool true) [] → itr F_law_same' n [.val d, .val d] K
  | 0, d, K, h, hK => h.elim
  | n + 1, d, K, h, hK => by
    refine ⟨rfl, ?_⟩
    show c_law_same (itr F_law_same' n) _ [.val d, .val d, .un]
    unfold c_law_same
    unfold c_law_same_4
    have body : ∀ (ds : List Dat) (D : Dat), (D = .tuple ds ∨ D = .list ds) → ds.length ≤ 16777216 → (∀ x ∈ ds, Pl n x) → ∀ kt : Kt, (∀ ρ, kt.rt (.bool true) ρ = K (.bool true) []) → c_law_same_3 (itr F_law_same' n) kt [.val D, .val D, .un] := fun ds D hD hl hp kt ht => by
      unfold c_law_same_3
      have hidx : ∀ i (x : Dat) P, ds[i]? = some x → P (Vl.dat x) → fIdx D (.int (i : Nat)) P := fun i x P hx hP => by
        rcases hD with rfl | rfl
        · rw [fIdx_t]; exact ⟨x, by rw [at_nat]; exact hx, hP⟩
        · rw [fIdx_l]; exact ⟨x, by rw [at_nat]; exact hx, hP⟩
      have hlen : ∀ P, P (Vl.dat (.int ds.length)) → gLen [D] P := fun P hP => by
        rcases hD with rfl | rfl <;> exact hP
      walk_at "dl"
      refine hlen _ ?_
      walk_at "dl"
      refine ⟨by omega, ?_⟩
      refine lcK_map (List.range ds.length) (fun (i : Nat) => .int (i : Int)) (fun _ => none) _ ?_ rfl (by rw [List.length_range]; exact hl) ?_ ?_
      · unfold rng; rw [Int.toNat_natCast]; exact List.map_congr_left fun i _ => by rw [Int.zero_add]
      · intro i hi C E hC hE
        walk_at "dl"
        have hi := List.mem_range.mp hi
        have hx : ds[i]? = some ds[i] := List.getElem?_eq_getElem hi
        refine hidx i _ _ hx ?_
        walk_at "dl"
        refine hidx i _ _ hx ?_
        walk_at "dl"
        refine same_refl n (hp _ (List.getElem_mem hi)) ?_
        walk_at "dl"
        exact hE _ rfl rfl
      · rw [show (List.range ds.length).filterMap (fun _ => (none : Option Dat)) = [] by simp]
        walk_at "dl"
        rw [decide_eq_true (show ((0 : Nat) : Int) = 0 from rfl), ht]
        exact hK
    cases d with
    | none => walk_at "dl"; unfold c_law_same_5; walk_at "dl"; unfold c_law_same_6; walk_at "dl"; exact hK
    | bool b => walk_at "dl"; unfold c_law_same_5; walk_at "dl"; simp only [decide_true]; exact hK
    | int i => walk_at "dl"; unfold c_law_same_5; walk_at "dl"; unfold c_law_same_6; walk_at "dl"; unfold c_law_same_7; walk_at "dl"; unfold c_law_same_8; walk_at "dl"; simp only [decide_true]; exact hK
    | str s => walk_at "dl"; unfold c_law_same_5; walk_at "dl"; unfold c_law_same_6; walk_at "dl"; unfold c_law_same_7; walk_at "dl"; simp only [decide_true]; exact hK
    | list ds =>
      walk_at "dl"
      unfold c_law_same_1
      walk_at "dl"
      simp only [decide_true]
      walk_at "dl"
      unfold c_law_same_2
      walk_at "dl"
      simp only [decide_true]
      walk_at "dl"
      exact body ds _ (.inr rfl) h.1 h.2 _ fun _ => rfl
    | tuple ds =>
      walk_at "dl"
      unfold c_law_same_1
      walk_at "dl"
      simp only [decide_true]
      walk_at "dl"
      unfold c_law_same_2
      walk_at "dl"
      simp only [decide_true]
      walk_at "dl"
      exact body ds _ (.inl rfl) h.1 h.2 _ fun _ => rfl
    | dict kvs => exact h.elim
theorem same_ok {d e : Dat} {K : OK} (h : Pl 60 d) (q : d = e) (hK : K (.bool true) []) : F_law_same [.val d, .val e] K := by
  subst q
  exact same_refl 60 h hK

/-! pairs -/
theorem prs_len {l : List (Nat × Nat)} (h : l.length ≤ 16777216) : Pl 3 (prs l) := by
  refine ⟨by rw [List.length_map]; exact h, fun x hx => ?_⟩
  obtain ⟨p, _, rfl⟩ := List.mem_map.mp hx
  exact ⟨by simp, fun y hy => by simp at hy; rcases hy with rfl | rfl <;> exact True.intro⟩
/-- a prefix of so many bits -/
def Pok (b : Nat) (p : Nat × Nat) : Prop := p.2 ≤ b ∧ p.1 < 2 ^ b ∧ 2 ^ (b - p.2) ∣ p.1
theorem Pok.of {b hi lo : Nat} (hh : hi < 2 ^ b) (h : lo ≤ hi + 1) : ∀ p ∈ D b lo hi, Pok b p := fun p m => by
  obtain ⟨v, t⟩ := p
  have w := ((D_tl (b := b) h).mem m).2
  exact ⟨w.le, by have := w.lt; show v < _; omega, w.fit.1⟩
theorem Pok.iv_ok {b : Nat} {p : Nat × Nat} (h : Pok b p) : p.1 + 2 ^ (b - p.2) ≤ 2 ^ b := by
  obtain ⟨h1, h2, h3⟩ := h
  exact dvd_step (Nat.two_pow_pos _) h3 (pow_dvd (by omega)) h2
theorem interval_ok' {b : Nat} {p : Nat × Nat} {K : OK} (h1 : 1 ≤ b) (hb : b ≤ 20) (hp : Pok b p) (h : K (pr (iv b p)) []) : F_interval_of [.val (.int b), .val (pr p)] K := interval_ok (v := p.1) (t := p.2) h1 hb hp.1 hp.2.1 hp.2.2 h
theorem ends_ok {b : Nat} {p : Nat × Nat} {K : OK} (hb : b ≤ 1000) (hp : p.2 ≤ b) (h : K (pr (iv b p)) []) : F_law_ends [.val (.int b), .val (pr p)] K := by
  refine ⟨rfl, ?_⟩
  unfold c_law_ends pr
  show DL.c_ret _ _ [.val (.int b), .val _]
  walk_at "dl"
  rw [show ((b : Int) - (p.2 : Int)) = ((b - p.2 : Nat) : Int) by omega]
  refine ⟨⟨by omega, by omega, by decide⟩, ?_⟩
  have := Nat.two_pow_pos (b - p.2)
  rw [Int.one_mul, Int.toNat_natCast, show (p.1 : Int) + (2 : Int) ^ (b - p.2) - 1 = ((p.1 + 2 ^ (b - p.2) - 1 : Nat) : Int) by
    rw [show ((2 : Int) ^ (b - p.2)) = ((2 ^ (b - p.2) : Nat) : Int) by simp]; omega]
  exact h
/-! sorted -/
theorem dataLe_pr (p q : Nat × Nat) : leP p q = W.dataLe false id (pr p) (pr q) := by
  rw [W.dataLe_eq]
  unfold leP pr
  simp only [cond_false, id_eq, W.dataLt_ii]
  congr 1
  apply decide_eq_decide.mpr
  omega
theorem sorted_ok {l : List (Nat × Nat)} {P : Vl → Prop} (h : P (.new (.lst ((sortP l).map pr)))) : gSorted [.list (l.map pr)] P := by
  refine ⟨⟨fun d hd d' hd' => ?_, .inl fun d hd => ?_, fun d hd => ?_⟩, ?_⟩
  · obtain ⟨p, _, rfl⟩ := List.mem_map.mp hd
    obtain ⟨q, _, rfl⟩ := List.mem_map.mp hd'
    rfl
  · obtain ⟨p, _, rfl⟩ := List.mem_map.mp hd
    exact ⟨_, _, rfl⟩
  · obtain ⟨p, _, rfl⟩ := List.mem_map.mp hd
    exact ⟨rfl, by show PyData.depth (.tuple [.int _, .int _]) ≤ 60; simp [PyData.depth, PyData.depthAll]⟩
  · unfold sortP at h
    rw [List.map_mergeSort (fun a _ c _ => dataLe_pr a c)] at h
    exact h
end K22

/-! text S22e -/
set_option Elab.async false
set_option linter.all false
set_option maxRecDepth 100000
set_option maxHeartbeats 1000000
local macro_rules | `(tactic| walk_at "dlg") => `(tactic| simp only [DL.g_tup, DL.g_cons, DL.g_name, DL.g_nil, List.length_cons, List.length_nil, Nat.reduceAdd, true_and, List.set_cons_zero, List.set_cons_succ])
namespace K22
open PySem PySem.Spec PyProof.Rows L2 PySem.SeqAt DL M22
theorem List.Sublist.sum_le_sum' : ∀ (a c : List Nat), a.Sublist c → a.sum ≤ c.sum := fun a c h => by
  induction h with
  | slnil => exact Nat.le_refl _
  | cons x _ ih => rw [List.sum_cons]; omega
  | cons_cons x _ ih => rw [List.sum_cons, List.sum_cons]; omega
theorem take_fold {l : List (Nat × Nat)} {i : Nat} {p : Nat × Nat} (h : l[i]? = some p) : (l.take (i + 1)).foldl rpush [] = rpush ((l.take i).foldl rpush []) p := by
  rw [List.take_add_one, h, List.foldl_append]
  rfl
theorem fold_len : ∀ (l acc : List (Nat × Nat)), (l.foldl rpush acc).length ≤ acc.length + l.length
  | [], acc => Nat.le_refl _
  | p :: l, acc => by
    have := fold_len l (rpush acc p)
    have : (rpush acc p).length ≤ acc.length + 1 := by
      cases acc with
      | nil => simp [rpush]
      | cons a r =>
        show (if p.1 ≤ a.2 + 1 then (a.1, max a.2 p.2) :: r else p :: a :: r).length ≤ _
        split <;> simp <;> omega
    simp only [List.foldl_cons, List.length_cons]
    omega
theorem get_map {l : List (Nat × Nat)} {i : Nat} {d : Dat} (h : (l.map pr)[i]? = some d) : ∃ p, l[i]? = some p ∧ d = pr p ∧ i < l.length := by
  rw [List.getElem?_map] at h
  cases e : l[i]? with
  | none => rw [e] at h; cases h
  | some p => rw [e] at h; exact ⟨p, rfl, (Option.some.inj h).symm, (List.getElem?_eq_some_iff.mp e).1⟩
theorem joined_step {acc : List (Nat × Nat)} {p : Nat × Nat} {a b c d z : DL.Slot} {k : Kt} (hl : acc.length < 16777216) (h : k.nx [a, b, c, d, .own 0 (.lst ((rpush acc p).reverse.map pr)), .val (.int p.1), .val (.int p.2), z]) :
    c_ifS
    (c_and (c_val (c_cmp bGt (c_fn gLen (a_cons (c_var 4) a_nil)) (c_lit (PyData.int 0))))
      (c_val
        (c_cmp bLe (c_var 5)
          (c_bin bAdd (c_idx fIdx (c_idx fIdx (c_var 4) (c_neg (c_lit (PyData.int 1)))) (c_lit (PyData.int 1)))
            (c_lit (PyData.int 1))))))
    (c_seti 4 (c_neg (c_lit (PyData.int 1)))
      (c_tup
        (a_cons (c_idx fIdx (c_idx fIdx (c_var 4) (c_neg (c_lit (PyData.int 1)))) (c_lit (PyData.int 0)))
          (a_cons
            (c_fn gMax
              (a_cons (c_idx fIdx (c_idx fIdx (c_var 4) (c_neg (c_lit (PyData.int 1)))) (c_lit (PyData.int 1)))
                (a_cons (c_var 6) a_nil)))
            a_nil))))
    (c_app 4 (c_tup (a_cons (c_var 5) (a_cons (c_var 6) a_nil)))) k [a, b, c, d, .own 0 (.lst (acc.reverse.map pr)), .val (.int p.1), .val (.int p.2), z] := by
  cases acc with
  | nil =>
    walk_at "dl"
    simp only [List.reverse_nil, List.map_nil, List.length_nil]
    rw [if_neg (by decide)]
    walk_at "dl"
    refine ⟨by decide, ?_⟩
    exact h
  | cons l r =>
    have er : (l :: r).reverse.map pr = r.reverse.map pr ++ [pr l] := by simp
    have ea : atI (r.reverse.map pr ++ [pr l]) (-1) = some (pr l) := at_last
    rw [er]
    walk_at "dl"
    rw [if_pos (by simp only [List.length_append, List.length_cons, List.length_nil]; omega)]
    refine ⟨_, ea, ?_⟩
    unfold pr at ea ⊢
    walk_at "dl"
    have ep : rpush (l :: r) p = if p.1 ≤ l.2 + 1 then (l.1, max l.2 p.2) :: r else p :: l :: r := rfl
    rw [ep] at h
    by_cases g : p.1 ≤ l.2 + 1
    · rw [if_pos (by omega)]
      rw [if_pos g] at h
      refine ⟨_, ea, ?_⟩
      walk_at "dl"
      refine ⟨_, ea, ?_⟩
      walk_at "dl"
      refine ⟨r.length, ?_, ?_⟩
      · rw [show (List.map (fun p : Nat × Nat => PyData.tuple [PyData.int p.1, PyData.int p.2]) r.reverse ++ [PyData.tuple [PyData.int l.1, PyData.int l.2]]).length = r.length + 1 by simp]
        exact ixN_last
      · have e1 : (List.map (fun p : Nat × Nat => PyData.tuple [PyData.int p.1, PyData.int p.2]) r.reverse ++ [PyData.tuple [PyData.int l.1, PyData.int l.2]]).set r.length (.tuple [.int l.1, .int (if (p.2 : Int) > (l.2 : Int) then (p.2 : Int) else (l.2 : Int))]) = ((l.1, max l.2 p.2) :: r).reverse.map pr := by
          rw [List.set_append_right _ _ (by simp)]
          simp only [List.length_map, List.length_reverse, Nat.sub_self, List.set_cons_zero, List.reverse_cons, List.map_append, List.map_cons, List.map_nil]
          have : (if (p.2 : Int) > (l.2 : Int) then (p.2 : Int) else (l.2 : Int)) = ((max l.2 p.2 : Nat) : Int) := by
            split <;> omega
          rw [this]
          rfl
        rw [e1]
        exact h
    · rw [if_neg (by omega)]
      rw [if_neg g] at h
      walk_at "dl"
      refine ⟨by simp at hl ⊢; omega, ?_⟩
      have e1 : (List.map (fun p : Nat × Nat => PyData.tuple [PyData.int p.1, PyData.int p.2]) r.reverse ++ [PyData.tuple [PyData.int l.1, PyData.int l.2]]) ++ [.tuple [.int p.1, .int p.2]] = (p :: l :: r).reverse.map pr := by
        simp [pr]
      rw [e1]
      exact h
theorem runs_step {acc : List (Nat × Nat)} {p : Nat × Nat} {a b z : DL.Slot} {k : Kt} (hl : acc.length < 16777216) (h : k.nx [a, b, .own 0 (.lst ((rpush acc p).reverse.map pr)), .val (.int p.1), .val (.int p.2), z]) :
    c_ifS
    (c_and (c_val (c_cmp bGt (c_fn gLen (a_cons (c_var 2) a_nil)) (c_lit (PyData.int 0))))
      (c_val
        (c_cmp bLe (c_var 3)
          (c_bin bAdd (c_idx fIdx (c_idx fIdx (c_var 2) (c_neg (c_lit (PyData.int 1)))) (c_lit (PyData.int 1)))
            (c_lit (PyData.int 1))))))
    (c_seti 2 (c_neg (c_lit (PyData.int 1)))
      (c_tup
        (a_cons (c_idx fIdx (c_idx fIdx (c_var 2) (c_neg (c_lit (PyData.int 1)))) (c_lit (PyData.int 0)))
          (a_cons
            (c_fn gMax
              (a_cons (c_idx fIdx (c_idx fIdx (c_var 2) (c_neg (c_lit (PyData.int 1)))) (c_lit (PyData.int 1)))
                (a_cons (c_var 4) a_nil)))
            a_nil))))
    (c_app 2 (c_tup (a_cons (c_var 3) (a_cons (c_var 4) a_nil)))) k [a, b, .own 0 (.lst (acc.reverse.map pr)), .val (.int p.1), .val (.int p.2), z] := by
  cases acc with
  | nil =>
    walk_at "dl"
    simp only [List.reverse_nil, List.map_nil, List.length_nil]
    rw [if_neg (by decide)]
    walk_at "dl"
    refine ⟨by decide, ?_⟩
    exact h
  | cons l r =>
    have er : (l :: r).reverse.map pr = r.reverse.map pr ++ [pr l] := by simp
    have ea : atI (r.reverse.map pr ++ [pr l]) (-1) = some (pr l) := at_last
    rw [er]
    walk_at "dl"
    rw [if_pos (by simp only [List.length_append, List.length_cons, List.length_nil]; omega)]
    refine ⟨_, ea, ?_⟩
    unfold pr at ea ⊢
    walk_at "dl"
    have ep : rpush (l :: r) p = if p.1 ≤ l.2 + 1 then (l.1, max l.2 p.2) :: r else p :: l :: r := rfl
    rw [ep] at h
    by_cases g : p.1 ≤ l.2 + 1
    · rw [if_pos (by omega)]
      rw [if_pos g] at h
      refine ⟨_, ea, ?_⟩
      walk_at "dl"
      refine ⟨_, ea, ?_⟩
      walk_at "dl"
      refine ⟨r.length, ?_, ?_⟩
      · rw [show (List.map (fun p : Nat × Nat => PyData.tuple [PyData.int p.1, PyData.int p.2]) r.reverse ++ [PyData.tuple [PyData.int l.1, PyData.int l.2]]).length = r.length + 1 by simp]
        exact ixN_last
      · have e1 : (List.map (fun p : Nat × Nat => PyData.tuple [PyData.int p.1, PyData.int p.2]) r.reverse ++ [PyData.tuple [PyData.int l.1, PyData.int l.2]]).set r.length (.tuple [.int l.1, .int (if (p.2 : Int) > (l.2 : Int) then (p.2 : Int) else (l.2 : Int))]) = ((l.1, max l.2 p.2) :: r).reverse.map pr := by
          rw [List.set_append_right _ _ (by simp)]
          simp only [List.length_map, List.length_reverse, Nat.sub_self, List.set_cons_zero, List.reverse_cons, List.map_append, List.map_cons, List.map_nil]
          have : (if (p.2 : Int) > (l.2 : Int) then (p.2 : Int) else (l.2 : Int)) = ((max l.2 p.2 : Nat) : Int) := by
            split <;> omega
          rw [this]
          rfl
        rw [e1]
        exact h
    · rw [if_neg (by omega)]
      rw [if_neg g] at h
      walk_at "dl"
      refine ⟨by simp at hl ⊢; omega, ?_⟩
      have e1 : (List.map (fun p : Nat × Nat => PyData.tuple [PyData.int p.1, PyData.int p.2]) r.reverse ++ [PyData.tuple [PyData.int l.1, PyData.int l.2]]) ++ [.tuple [.int p.1, .int p.2]] = (p :: l :: r).reverse.map pr := by
        simp [pr]
      rw [e1]
      exact h

theorem flat_len {b N : Nat} : ∀ {l : List (Nat × Nat)} {lo : Nat}, NF l → (∀ p ∈ l, lo ≤ p.1 ∧ p.2 < N) → lo ≤ N → (l.flatMap fun r => D b r.1 r.2).length ≤ N - lo
  | [], lo, _, _, _ => Nat.zero_le _
  | p :: l, lo, h, g, hN => by
    have h1 := h.1 p (List.mem_cons_self ..)
    have h2 := g p (List.mem_cons_self ..)
    have h3 := dec_len (b := b) (hi := p.2) (p.2 + 1 - p.1) p.1
    have h4 := flat_len (b := b) (N := N) (lo := p.2 + 1) h.tail (fun q m => ⟨by have := (List.pairwise_cons.mp h.2).1 q m; omega, (g q (List.mem_cons_of_mem _ m)).2⟩) (by omega)
    rw [List.flatMap_cons, List.length_append]
    have h3 : (D b p.1 p.2).length ≤ p.2 + 1 - p.1 := h3
    omega
theorem runs_hi {b : Nat} {l : List (Nat × Nat)} (hp : ∀ p ∈ l, Pok b p) : ∀ r ∈ runs (l.map (iv b)), r.1 ≤ r.2 ∧ r.2 < 2 ^ b := fun r m => by
  have k := runs_ok (l := l.map (iv b)) ivs_le
  have h1 := k.1.1 r m
  refine ⟨h1, ?_⟩
  obtain ⟨p, m', u⟩ := un_iv.mp ((k.2 r.2).mp ⟨r, m, h1, Nat.le_refl _⟩)
  have := (hp p m').iv_ok
  omega
theorem J_len {b : Nat} {l : List (Nat × Nat)} (hp : ∀ p ∈ l, Pok b p) : (J b l).length ≤ 2 ^ b := by
  have k := runs_ok (l := l.map (iv b)) ivs_le
  have := flat_len (b := b) (N := 2 ^ b) (lo := 0) k.1 (fun p m => ⟨Nat.zero_le _, (runs_hi hp p m).2⟩) (Nat.zero_le _)
  exact this
theorem J_ok {b : Nat} {l : List (Nat × Nat)} (hp : ∀ p ∈ l, Pok b p) : ∀ p ∈ J b l, Pok b p := fun p m => by
  obtain ⟨r, m, m'⟩ := List.mem_flatMap.mp m
  have := runs_hi hp r m
  exact Pok.of this.2 (by omega) p m'
theorem joined_ok {b : Nat} {l : List (Nat × Nat)} {K : OK} (h1 : 1 ≤ b) (hb : b ≤ 20) (hp : ∀ p ∈ l, Pok b p) (hl : l.length < 16777216) (h : K (prs (J b l)) []) : F_joined_prefixes [.val (.int b), .val (prs l)] K := by
  have h2b : 2 ^ b ≤ 2 ^ 20 := Nat.pow_le_pow_right (by omega) hb
  refine ⟨rfl, ?_⟩
  unfold c_joined_prefixes
  show DL.c_seq _ _ _ [.val (.int b), .val (prs l), .un, .un, .un, .un, .un, .un]
  walk_at "dl"
  unfold c_joined_prefixes_1
  walk_at "dl"
  refine look_bits_ok h1 hb ?_
  unfold c_joined_prefixes_2 prs
  walk_at "dl"
  refine lcK_map l pr (fun p => some (pr (iv b p))) _ rfl rfl (by omega) ?_ ?_
  · intro p m C E hC _
    walk_at "dl"
    refine interval_ok' h1 hb (hp p m) ?_
    walk_at "dl"
    exact hC _ _ rfl rfl
  · walk_at "dl"
    rw [show l.filterMap (fun p => some (pr (iv b p))) = (l.map (iv b)).map pr by simp]
    refine sorted_ok ?_
    walk_at "dl"
    unfold c_joined_prefixes_3
    walk_at "dl"
    unfold c_joined_prefixes_4 c_for
    walk_at "dl"
    refine ⟨fun i ρ => ∃ x5 x6, ρ = [.val (.int b), .val (.tuple (l.map pr)), .val (.list ((sortP (l.map (iv b))).map pr)), .un, .own 0 (.lst ((((sortP (l.map (iv b))).take i).foldl rpush []).reverse.map pr)), x5, x6, .un], ⟨_, _, rfl⟩, ?_, ?_⟩
    · rintro i d ρ hd ⟨x5, x6, rfl⟩
      obtain ⟨p, hp', rfl, hlt⟩ := get_map hd
      rw [show pr p = .tuple [.int p.1, .int p.2] from rfl]
      walk_at "dlg"
      unfold c_joined_prefixes_b1
      refine joined_step ?_ ?_
      · have := fold_len ((sortP (l.map (iv b))).take i) []
        have e : (sortP (l.map (iv b))).length = l.length := by unfold sortP; rw [List.length_mergeSort, List.length_map]
        rw [List.length_take] at this
        simp only [List.length_nil] at this
        omega
      · exact ⟨_, _, by rw [take_fold hp']⟩
    · rintro ρ ⟨x5, x6, rfl⟩
      rw [List.length_map, List.take_length]
      unfold c_joined_prefixes_5
      walk_at "dl"
      unfold c_joined_prefixes_6 c_for
      walk_at "dl"
      rw [show ((sortP (l.map (iv b))).foldl rpush []).reverse = runs (l.map (iv b)) from rfl]
      refine ⟨fun i ρ => ∃ x5 x6, ρ = [.val (.int b), .val (.tuple (l.map pr)), .val (.list ((sortP (l.map (iv b))).map pr)), .un, .val (.list ((runs (l.map (iv b))).map pr)), x5, x6, .val (.tuple ((((runs (l.map (iv b))).take i).flatMap fun r => D b r.1 r.2).map pr))], ⟨_, _, rfl⟩, ?_, ?_⟩
      · rintro i d ρ hd ⟨x5, x6, rfl⟩
        obtain ⟨r, hr, rfl, hlt⟩ := get_map hd
        have hm := runs_hi hp r (List.mem_of_getElem? hr)
        rw [show pr r = .tuple [.int r.1, .int r.2] from rfl]
        walk_at "dlg"
        unfold c_joined_prefixes_b2
        walk_at "dl"
        refine prefixes_ok h1 hb hm.1 hm.2 ?_
        unfold prs
        walk_at "dl"
        have e2 : (((runs (l.map (iv b))).take (i + 1)).flatMap fun r => D b r.1 r.2) = (((runs (l.map (iv b))).take i).flatMap fun r => D b r.1 r.2) ++ D b r.1 r.2 := by
          rw [List.take_add_one, hr, List.flatMap_append]; simp
        refine ⟨?_, ?_⟩
        · have := J_len hp
          unfold J at this
          have k : ((((runs (l.map (iv b))).take (i + 1)).flatMap fun r => D b r.1 r.2)).length ≤ ((runs (l.map (iv b))).flatMap fun r => D b r.1 r.2).length := by
            rw [List.length_flatMap, List.length_flatMap]
            exact List.Sublist.sum_le_sum' _ _ ((List.take_sublist _ _).map _)
          rw [e2, List.length_append] at k
          rw [List.length_map, List.length_map]
          omega
        · exact ⟨_, _, by rw [e2, List.map_append]⟩
      · rintro ρ ⟨x5, x6, rfl⟩
        rw [List.length_map, List.take_length]
        unfold c_joined_prefixes_7
        walk_at "dl"
        exact h
end K22

/-! text S22f -/
set_option Elab.async false
set_option linter.all false
set_option maxRecDepth 100000
set_option maxHeartbeats 1000000
namespace K22
open PySem PySem.Spec PyProof.Rows L2 PySem.SeqAt DL M22
theorem runs_prog_ok {b : Nat} {l : List (Nat × Nat)} {K : OK} (hb : b ≤ 20) (hp : ∀ p ∈ l, p.2 ≤ b) (hl : l.length < 16777216) (h : K (.list ((runs (l.map (iv b))).map pr)) []) : F_law_runs [.val (.int b), .val (prs l)] K := by
  refine ⟨rfl, ?_⟩
  unfold c_law_runs
  show DL.c_seq _ _ _ [.val (.int b), .val (prs l), .un, .un, .un, .un]
  walk_at "dl"
  unfold c_law_runs_1 prs
  walk_at "dl"
  unfold c_law_runs_2 c_for
  walk_at "dl"
  refine lcK_map l pr (fun p => some (pr (iv b p))) _ rfl rfl (by omega) ?_ ?_
  · intro p m C E hC _
    walk_at "dl"
    refine ends_ok (by omega) (hp p m) ?_
    walk_at "dl"
    exact hC _ _ rfl rfl
  · walk_at "dl"
    rw [show l.filterMap (fun p => some (pr (iv b p))) = (l.map (iv b)).map pr by simp]
    refine sorted_ok ?_
    walk_at "dl"
    refine ⟨fun i ρ => ∃ x5 x6, ρ = [.val (.int b), .val (.tuple (l.map pr)), .own 0 (.lst ((((sortP (l.map (iv b))).take i).foldl rpush []).reverse.map pr)), x5, x6, .un], ⟨_, _, rfl⟩, ?_, ?_⟩
    · rintro i d ρ hd ⟨x5, x6, rfl⟩
      obtain ⟨p, hp', rfl, hlt⟩ := get_map hd
      rw [show pr p = .tuple [.int p.1, .int p.2] from rfl]
      walk_at "dlg"
      unfold c_law_runs_b1
      refine runs_step ?_ ?_
      · have := fold_len ((sortP (l.map (iv b))).take i) []
        have e : (sortP (l.map (iv b))).length = l.length := by unfold sortP; rw [List.length_mergeSort, List.length_map]
        rw [List.length_take] at this
        simp only [List.length_nil] at this
        omega
      · exact ⟨_, _, by rw [take_fold hp']⟩
    · rintro ρ ⟨x5, x6, rfl⟩
      rw [List.length_map, List.take_length]
      unfold c_law_runs_3
      walk_at "dl"
      exact h
theorem erase_map {f : Nat × Nat → Dat} : ∀ (l : List (Nat × Nat)) (i : Nat), (l.map f).eraseIdx i = (l.eraseIdx i).map f
  | [], _ => rfl
  | _ :: _, 0 => rfl
  | a :: l, i + 1 => by simp only [List.map_cons, List.eraseIdx_cons_succ, erase_map l i]
theorem erase_perm : ∀ (l : List (Nat × Nat)) (i : Nat) (h : i < l.length), (l[i] :: l.eraseIdx i).Perm l
  | a :: l, 0, h => List.Perm.refl _
  | a :: l, i + 1, h => by
    have k := erase_perm l i (by simp only [List.length_cons] at h; omega)
    simp only [List.getElem_cons_succ, List.eraseIdx_cons_succ]
    exact (List.Perm.swap _ _ _).trans (k.cons a)
theorem turned_ok {l : List (Nat × Nat)} {r : Dr} {K : OK} (hl : l.length < 1000000) (h : ∀ (out : List (Nat × Nat)) (r' : Dr), out.Perm l → K (prs out) [.lst r'.ds]) : F_law_turned [.ref (.lst r.ds), .val (prs l)] K := by
  refine ⟨rfl, ?_⟩
  unfold c_law_turned
  show DL.c_seq _ _ _ [.own 1 (.lst r.ds), .val (prs l), .un, .un, .un]
  walk_at "dl"
  unfold c_law_turned_1 prs
  walk_at "dl"
  unfold c_law_turned_2 c_for
  walk_at "dl"
  refine ⟨by rw [List.length_map]; omega, ?_⟩
  refine ⟨fun i ρ => ∃ (left out : List (Nat × Nat)) (r' : Dr) (x4 : DL.Slot), ρ = [.own 1 (.lst r'.ds), .val (.tuple (l.map pr)), .own 0 (.lst (left.map pr)), .own 0 (.lst (out.map pr)), x4] ∧ left.length + i = l.length ∧ out.length = i ∧ (out ++ left).Perm l, ⟨l, [], r, _, rfl, rfl, rfl, List.Perm.refl _⟩, ?_, ?_⟩
  · rintro i d ρ hd ⟨left, out, r', x4, rfl, e1, e2, e3⟩
    have hlt := (List.getElem?_eq_some_iff.mp hd).1
    unfold rng at hlt
    rw [List.length_map, List.length_range, List.length_map, Int.toNat_natCast] at hlt
    walk_at "dl"
    unfold c_law_turned_b1
    walk_at "dl"
    refine draw_ok (by rw [List.length_map]; omega) (by rw [List.length_map]; omega) fun v r2 hv => ?_
    rw [List.length_map] at hv
    have hv : v < left.length := by omega
    walk_at "dl"
    refine ⟨v, ixN_lt (by rw [List.length_map]; exact hv), pr (left[v]), by rw [List.getElem?_map, List.getElem?_eq_getElem hv]; rfl, by rw [List.length_map]; omega, ?_⟩
    refine ⟨by rw [List.length_map]; omega, left.eraseIdx v, out ++ [(left[v])], r2, _, by rw [erase_map, List.map_append]; rfl, by rw [List.length_eraseIdx]; split <;> omega, by rw [List.length_append, e2]; rfl, ?_⟩
    refine List.Perm.trans ?_ e3
    rw [List.append_assoc]
    exact List.Perm.append_left _ (erase_perm left v hv)
  · rintro ρ ⟨left, out, r', x4, rfl, e1, e2, e3⟩
    unfold c_law_turned_3
    walk_at "dl"
    have el : left = [] := by
      unfold rng at e1
      rw [List.length_map, List.length_range, List.length_map, Int.toNat_natCast] at e1
      exact List.length_eq_zero_iff.mp (by omega)
    subst el
    rw [List.append_nil] at e3
    exact h out r' e3
theorem prefix_ok {b : Nat} {r : Dr} {K : OK} (hb : b ≤ 20) (h : ∀ (p : Nat × Nat) (r' : Dr), Pok b p → K (pr p) [.lst r'.ds]) : F_law_prefix [.ref (.lst r.ds), .val (.int b)] K := by
  have h2b : 2 ^ b ≤ 2 ^ 20 := Nat.pow_le_pow_right (by omega) hb
  refine ⟨rfl, ?_⟩
  unfold c_law_prefix
  show DL.c_seq _ _ _ [.own 1 (.lst r.ds), .val (.int b), .un, .un]
  walk_at "dl"
  unfold c_law_prefix_1
  walk_at "dl"
  refine draw_ok (by omega) (by omega) fun t r2 ht => ?_
  have ht : t ≤ b := by omega
  walk_at "dl"
  unfold c_law_prefix_2
  walk_at "dl"
  rw [show ((b : Int) - (t : Int)) = ((b - t : Nat) : Int) by omega]
  refine ⟨⟨by omega, by omega, by decide⟩, ?_⟩
  unfold c_law_prefix_3
  walk_at "dl"
  refine ⟨⟨by omega, by omega, by decide⟩, ?_⟩
  have hp := Nat.two_pow_pos t
  have h2t : 2 ^ t ≤ 2 ^ b := Nat.pow_le_pow_right (by omega) ht
  have et : (1 : Int) * 2 ^ (Int.toNat (t : Int)) = ((2 ^ t : Nat) : Int) := by rw [Int.one_mul, Int.toNat_natCast]; simp
  have es : (1 : Int) * 2 ^ (Int.toNat ((b - t : Nat) : Int)) = ((2 ^ (b - t) : Nat) : Int) := by rw [Int.one_mul, Int.toNat_natCast]; simp
  rw [et, es]
  refine draw_ok (by omega) (by omega) fun v r3 hv => ?_
  have hv : v < 2 ^ t := by omega
  walk_at "dl"
  have hs : 2 ^ (b - t) ≤ 2 ^ b := Nat.pow_le_pow_right (by omega) (by omega)
  refine ⟨.inr ⟨Int.lt_of_lt_of_le (by decide) (Int.natCast_nonneg _), Int.lt_of_le_of_lt (Int.ofNat_le.mpr (Nat.le_trans hs h2b)) (by decide)⟩, ?_⟩
  rw [show (v : Int) * ((2 ^ (b - t) : Nat) : Int) = ((v * 2 ^ (b - t) : Nat) : Int) by simp]
  refine h (v * 2 ^ (b - t), t) r3 ⟨ht, ?_, Nat.dvd_mul_left _ _⟩
  have e : 2 ^ b = 2 ^ t * 2 ^ (b - t) := by rw [← Nat.pow_add]; congr 1; omega
  show v * 2 ^ (b - t) < 2 ^ b
  rw [e]
  exact Nat.mul_lt_mul_of_pos_right hv (Nat.two_pow_pos _)

theorem apart_ok {b lo hi : Nat} {K : OK} (h1 : 1 ≤ b) (hb : b ≤ 20) (hl : lo ≤ hi) (hh : hi < 2 ^ b) (h : K (.tuple ((D b lo hi).map fun p => .int p.1)) []) : F_apart_by [.val (.int b), .val (.int lo), .val (.int hi)] K := by
  have h2b : 2 ^ b ≤ 2 ^ 20 := Nat.pow_le_pow_right (by omega) hb
  refine ⟨rfl, ?_⟩
  unfold c_apart_by
  show DL.c_ret _ _ [.val (.int b), .val (.int lo), .val (.int hi), .un, .un]
  walk_at "dl"
  refine prefixes_ok h1 hb hl hh ?_
  unfold prs
  walk_at "dl"
  have := dec_len (b := b) (hi := hi) (hi + 1 - lo) lo
  have : (D b lo hi).length ≤ hi + 1 - lo := this
  refine lcK_map (D b lo hi) pr (fun p => some (.int p.1)) _ rfl rfl (by omega) ?_ ?_
  · intro p m C E hC _
    rw [show pr p = .tuple [.int p.1, .int p.2] from rfl]
    walk_at "dl"
    exact hC _ _ rfl rfl
  · walk_at "dl"
    rw [show (D b lo hi).filterMap (fun p => some (PyData.int p.1)) = (D b lo hi).map fun p => .int p.1 by simp]
    exact h
theorem div_int {a c : Nat} : ((a : Int) / (c : Int)) = ((a / c : Nat) : Int) := by simp
theorem shared_ok {b x y lo hi : Nat} {K : OK} (hb : b ≤ 20) (hx : x < 2 ^ b) (hy : y < 2 ^ b) (h : ∀ u, u ≤ b → x / 2 ^ (b - u) = y / 2 ^ (b - u) → K (.bool (decide (lo ≤ x / 2 ^ (b - u) * 2 ^ (b - u) ∧ x / 2 ^ (b - u) * 2 ^ (b - u) + 2 ^ (b - u) ≤ hi + 1))) []) :
    F_shared_within [.val (.int b), .val (.int x), .val (.int y), .val (.int lo), .val (.int hi)] K := by
  have h2b : 2 ^ b ≤ 2 ^ 20 := Nat.pow_le_pow_right (by omega) hb
  refine ⟨rfl, ?_⟩
  unfold c_shared_within
  show DL.c_seq _ _ _ [.val (.int b), .val (.int x), .val (.int y), .val (.int lo), .val (.int hi), .un, .un]
  walk_at "dl"
  unfold c_shared_within_1
  walk_at "dl"
  unfold c_shared_within_2 c_while
  refine ⟨fun u ρ => ρ = [.val (.int b), .val (.int x), .val (.int y), .val (.int lo), .val (.int hi), .val (.int u), .un] ∧ u ≤ b, ⟨b, rfl, Nat.le_refl _⟩, ?_⟩
  rintro u ρ ⟨rfl, hu⟩
  have hp := Nat.two_pow_pos (b - u)
  have hs : 2 ^ (b - u) ≤ 2 ^ b := Nat.pow_le_pow_right (by omega) (by omega)
  have hj : (0 : Int) < ((2 ^ (b - u) : Nat) : Int) ∧ ((2 ^ (b - u) : Nat) : Int) < 1073741824 := ⟨Int.natCast_pos.mpr hp, Int.lt_of_le_of_lt (Int.ofNat_le.mpr (Nat.le_trans hs h2b)) (by decide)⟩
  walk_at "dl"
  refine size_under_ok (by omega) hu ?_
  walk_at "dl"
  refine ⟨hj, size_under_ok (by omega) hu ?_⟩
  walk_at "dl"
  refine ⟨hj, ?_⟩
  by_cases e : x / 2 ^ (b - u) = y / 2 ^ (b - u)
  · rw [div_int, div_int, decide_eq_true (show ((x / 2 ^ (b - u) : Nat) : Int) = ((y / 2 ^ (b - u) : Nat) : Int) by rw [e])]
    walk_at "dl"
    unfold c_shared_within_3
    walk_at "dl"
    refine size_under_ok (by omega) hu ?_
    walk_at "dl"
    refine ⟨hj, size_under_ok (by omega) hu ?_⟩
    walk_at "dl"
    refine ⟨.inr ⟨Int.lt_of_lt_of_le (by decide) (Int.natCast_nonneg _), Int.lt_trans hj.2 (by decide)⟩, ?_⟩
    unfold c_shared_within_4
    walk_at "dl"
    have k := h u hu e
    rw [div_int, ← Int.natCast_mul]
    by_cases g : lo ≤ x / 2 ^ (b - u) * 2 ^ (b - u)
    · rw [if_pos (Int.ofNat_le.mpr g)]
      refine size_under_ok (by omega) hu ?_
      walk_at "dl"
      have : decide (((x / 2 ^ (b - u) * 2 ^ (b - u) : Nat) : Int) + ((2 ^ (b - u) : Nat) : Int) - 1 ≤ (hi : Int)) = decide (lo ≤ x / 2 ^ (b - u) * 2 ^ (b - u) ∧ x / 2 ^ (b - u) * 2 ^ (b - u) + 2 ^ (b - u) ≤ hi + 1) := by
        apply decide_eq_decide.mpr
        generalize x / 2 ^ (b - u) * 2 ^ (b - u) = z at *
        generalize 2 ^ (b - u) = w at *
        omega
      rw [this]
      exact k
    · rw [if_neg (fun z => g (Int.ofNat_le.mp z))]
      rw [decide_eq_false (fun z => g z.1)] at k
      exact k
  · rw [div_int, div_int, decide_eq_false (fun z => e (Int.ofNat_inj.mp z))]
    walk_at "dl"
    unfold c_shared_within_b1
    walk_at "dl"
    cases u with
    | zero => exact absurd (by rw [Nat.sub_zero, Nat.div_eq_of_lt hx, Nat.div_eq_of_lt hy]) e
    | succ u => exact ⟨u, by omega, by rw [show ((u + 1 : Nat) : Int) - 1 = ((u : Nat) : Int) by omega], by omega⟩
end K22

/-! text S22g -/
set_option Elab.async false
set_option linter.all false
set_option maxRecDepth 100000
set_option maxHeartbeats 1000000
namespace K22
open PySem PySem.Spec PyProof.Rows L2 PySem.SeqAt DL M22
theorem cut_from1 {α : Type} (xs : List α) : cut xs (some 1) none = xs.drop 1 := by
  unfold cut
  cases xs with
  | nil => simp
  | cons x xs =>
    have e : HT.sIx (x :: xs).length 0 (some 1) = 1 := by unfold HT.sIx; simp
    rw [e]
    have e2 : HT.sIx (x :: xs).length (x :: xs).length none = xs.length + 1 := by unfold HT.sIx; simp
    rw [e2]
    simp
theorem zipD_pr : ∀ (ns ms : List Nat), zipD (ns.map fun (n : Nat) => PyData.int n) (ms.map fun (n : Nat) => PyData.int n) = (ns.zip ms).map pr
  | [], _ => rfl
  | _ :: _, [] => rfl
  | n :: ns, m :: ms => by
    simp only [List.map_cons, zipD, List.zip_cons_cons, zipD_pr ns ms]
    rfl
/-- consecutive tiles -/
theorem Tl.next {b hi : Nat} : ∀ {l : List (Nat × Nat)} {lo : Nat}, Tl b hi lo l → ∀ p ∈ (l.map (·.1)).zip ((l.map (·.1)).drop 1), ∃ t, (p.1, t) ∈ l ∧ p.1 + 2 ^ (b - t) ≤ p.2 ∧ p.2 ≤ hi
  | [], _, _, p, m => by simp at m
  | [_], _, _, p, m => by simp at m
  | (v, t) :: (v', t') :: r, _, h, p, m => by
    obtain ⟨_, _, h2⟩ := h.inv
    have e := h2.inv.1
    have w := h2.inv.2.1.lt
    simp only [List.map_cons, List.drop_succ_cons, List.drop_zero, List.zip_cons_cons] at m
    rcases List.mem_cons.mp m with rfl | m
    · exact ⟨t, List.mem_cons_self .., Nat.le_of_eq e, w.1⟩
    · obtain ⟨u, a, c⟩ := Tl.next h2 p (by simpa using m)
      exact ⟨u, List.mem_cons_of_mem _ a, c⟩
theorem all_true {n : Nat} {P : Vl → Prop} (h : P (.dat (.bool true))) : gAll [.list (List.replicate n (.bool true))] P :=
  ⟨List.replicate n true, by rw [List.map_replicate], by
    have : (List.replicate n true).all id = true := by simp
    rw [this]; exact h⟩
theorem any_false {n : Nat} {P : Vl → Prop} (h : P (.dat (.bool false))) : gAny [.list (List.replicate n (.bool false))] P :=
  ⟨List.replicate n false, by rw [List.map_replicate], by
    have : (List.replicate n false).any id = false := by simp
    rw [this]; exact h⟩
theorem fm_const {α : Type} (l : List α) (d : Dat) : l.filterMap (fun _ => some d) = List.replicate l.length d := by
  induction l with
  | nil => rfl
  | cons a l ih => rw [List.filterMap_cons]; show d :: _ = _; rw [ih]; rfl
theorem are_apart_ok {b lo hi : Nat} {K : OK} (h1 : 1 ≤ b) (hb : b ≤ 20) (hl : lo ≤ hi) (hh : hi < 2 ^ b) (h : K (.bool true) []) :
    F_are_apart [.val (.int b), .val (.int lo), .val (.int hi), .val (.tuple ((D b lo hi).map fun p => .int p.1))] K := by
  have h2b : 2 ^ b ≤ 2 ^ 20 := Nat.pow_le_pow_right (by omega) hb
  have hlen : (D b lo hi).length ≤ hi + 1 - lo := dec_len (b := b) (hi := hi) (hi + 1 - lo) lo
  have T := D_tl (b := b) (by omega : lo ≤ hi + 1)
  have en : (D b lo hi).map (fun p => PyData.int p.1) = ((D b lo hi).map (·.1)).map fun (n : Nat) => PyData.int n := by rw [List.map_map]; rfl
  refine ⟨rfl, ?_⟩
  unfold c_are_apart
  show DL.c_seq _ _ _ [.val (.int b), .val (.int lo), .val (.int hi), .val (.tuple ((D b lo hi).map fun p => .int p.1)), .un, .un]
  rw [en]
  have nx := Tl.next T
  have rg : ∀ n ∈ (D b lo hi).map (·.1), lo ≤ n ∧ n ≤ hi := fun n m => by
    obtain ⟨p, m', rfl⟩ := List.mem_map.mp m
    have := T.mem (v := p.1) (t := p.2) m'
    exact ⟨this.1, this.2.lt.1⟩
  have lenN : ((D b lo hi).map (·.1)).length ≤ 2 ^ 20 := by rw [List.length_map]; omega
  generalize (D b lo hi).map (·.1) = ns at *
  walk_at "dl"
  unfold c_are_apart_1
  walk_at "dl"
  refine look_int_ok h1 hb hl hh ?_
  walk_at "dl"
  unfold c_are_apart_2
  walk_at "dl"
  refine lcK_map ns (fun (n : Nat) => .int n) (fun _ => some (.bool true)) _ rfl rfl (by omega) ?_ ?_
  · intro n m C E hC _
    obtain ⟨a, c⟩ := rg n m
    walk_at "dl"
    refine is_whole_int ?_
    walk_at "dl"
    rw [if_pos (by omega)]
    walk_at "dl"
    rw [decide_eq_true (show (n : Int) ≤ hi by omega)]
    exact hC _ _ rfl rfl
  · walk_at "dl"
    rw [fm_const]
    refine all_true ?_
    walk_at "dl"
    unfold c_are_apart_3
    walk_at "dl"
    rw [cut_from1, ← List.map_drop, zipD_pr]
    have lenZ : (ns.zip (ns.drop 1)).length ≤ 16777216 := by rw [List.length_zip]; omega
    refine lcK_map (ns.zip (ns.drop 1)) pr (fun _ => some (.bool true)) _ rfl rfl lenZ ?_ ?_
    · intro p m C E hC _
      obtain ⟨t, a, c, d⟩ := nx p m
      rw [show pr p = .tuple [.int p.1, .int p.2] from rfl]
      walk_at "dl"
      rw [decide_eq_true (show (p.1 : Int) < p.2 by have := Nat.two_pow_pos (b - t); omega)]
      exact hC _ _ rfl rfl
    · walk_at "dl"
      rw [fm_const]
      refine all_true ?_
      walk_at "dl"
      unfold c_are_apart_4
      walk_at "dl"
      rw [cut_from1, ← List.map_drop, zipD_pr]
      refine lcK_map (ns.zip (ns.drop 1)) pr (fun _ => some (.bool false)) _ rfl rfl lenZ ?_ ?_
      · intro p m C E hC _
        obtain ⟨t, a, c, d⟩ := nx p m
        have hp := Nat.two_pow_pos (b - t)
        rw [show pr p = .tuple [.int p.1, .int p.2] from rfl]
        walk_at "dl"
        refine shared_ok hb (by omega) (by omega) fun u hu e => ?_
        walk_at "dl"
        rw [decide_eq_false (T.about a hu c e)]
        exact hC _ _ rfl rfl
      · walk_at "dl"
        rw [fm_const]
        refine any_false ?_
        walk_at "dl"
        exact h

/-- the signs of a prefix -/
def bitS (v e : Nat) : Str := Str.ofString (toString (((v / 2 ^ e % 2 : Nat) : Int)))
def signs (b : Nat) (p : Nat × Nat) : Str := Txt.join (Str.ofString "") ((List.range p.2).map fun k => bitS p.1 (b - (k + 1))) ++ Txt.mul (Str.ofString "*") ((b - p.2 : Nat) : Int)
theorem bitS_len {v e : Nat} : (bitS v e).length = 1 := by
  unfold bitS
  rcases Nat.mod_two_eq_zero_or_one (v / 2 ^ e) with h | h <;> rw [h] <;> decide +kernel
theorem one_sum : ∀ (ys : List Str), (∀ y ∈ ys, y.length = 1) → (ys.map (·.length)).sum = ys.length
  | [], _ => rfl
  | y :: ys, h => by
    rw [List.map_cons, List.sum_cons, one_sum ys (fun z m => h z (List.mem_cons_of_mem _ m)), h y (List.mem_cons_self ..), List.length_cons]
    omega
theorem join_len {ys : List Str} (h : ∀ y ∈ ys, y.length = 1) : (Txt.join (Str.ofString "") ys).length ≤ ys.length := by
  have e : Txt.join (Str.ofString "") ys = Str.join (Str.ofString "") ys := eq_of_beq (join_plain_closes (Str.ofString "") ys)
  rw [e]
  have := StrLaws.join_length_le (Str.ofString "") ys
  rw [one_sum ys h] at this
  have z : (Str.ofString "").length = 0 := by decide +kernel
  rw [z, Nat.mul_zero, Nat.add_zero] at this
  exact this
theorem mulS_len {n : Nat} : (Txt.mul (Str.ofString "*") (n : Int)).length ≤ n := by
  have := len_mul_leN (x := Str.ofString "*") (n := (n : Int)) (L := 1) (N := n) (by decide +kernel) (Int.le_refl _)
  omega
theorem gStr_bit {v e : Nat} {P : Vl → Prop} (h : P (.dat (.str (bitS v e)))) : gStr [.int ((v / 2 ^ e % 2 : Nat) : Int)] P := by
  refine ⟨?_, h⟩
  rw [Int.natAbs_natCast]
  rcases Nat.mod_two_eq_zero_or_one (v / 2 ^ e) with h | h <;> rw [h] <;> decide
theorem join_bits {b t v : Nat} {P : Vl → Prop} (hb : b ≤ 20) (ht : t ≤ b) (h : P (.dat (.str (Txt.join (Str.ofString "") ((List.range t).map fun k => bitS v (b - (k + 1))))))) : mJoin (.str (Str.ofString "")) [.list ((List.range t).map fun k => .str (bitS v (b - (k + 1))))] P := by
  refine ⟨(List.range t).map fun k => bitS v (b - (k + 1)), by rw [List.map_map]; rfl, ?_, h⟩
  rw [one_sum _ (fun y m => by obtain ⟨k, _, rfl⟩ := List.mem_map.mp m; exact bitS_len), List.length_map, List.length_range]
  have z : (Str.ofString "").length = 0 := by decide +kernel
  rw [z]
  omega
theorem mod_int {a : Nat} : ((a : Int) % 2) = ((a % 2 : Nat) : Int) := by omega
theorem signs_tail {b t v : Nat} {P : Vl → Prop} (hb : b ≤ 20) (ht : t ≤ b) (h : P (.dat (.str (signs b (v, t))))) : bMul (.str (Str.ofString "*")) (.int ((b - t : Nat) : Int)) fun z => rdK [] z fun d => bAdd (.str (Txt.join (Str.ofString "") ((List.range t).map fun k => bitS v (b - (k + 1))))) d P := by
  have z : (Str.ofString "*").length = 1 := by decide +kernel
  walk_at "dl"
  rw [z]
  refine ⟨⟨by omega, by omega, by omega, by omega⟩, ?_⟩
  have k1 := join_len (ys := (List.range t).map fun k => bitS v (b - (k + 1))) (fun y m => by obtain ⟨k, _, rfl⟩ := List.mem_map.mp m; exact bitS_len)
  have k2 := mulS_len (n := b - t)
  rw [List.length_map, List.length_range] at k1
  exact ⟨by omega, h⟩
theorem signs_ok {b : Nat} {p : Nat × Nat} {K : OK} (h1 : 1 ≤ b) (hb : b ≤ 20) (hp : Pok b p) (h : K (.str (signs b p)) []) : F_prefix_signs [.val (.int b), .val (pr p)] K := by
  obtain ⟨v, t⟩ := p
  obtain ⟨ht, hv, hd⟩ := hp
  have ht : t ≤ b := ht
  have h2b : 2 ^ b ≤ 2 ^ 20 := Nat.pow_le_pow_right (by omega) hb
  refine ⟨rfl, ?_⟩
  unfold c_prefix_signs
  show DL.c_seq _ _ _ [.val (.int b), .val (pr (v, t)), .un, .un]
  walk_at "dl"
  unfold c_prefix_signs_1
  walk_at "dl"
  refine look_prefix_ok h1 hb ht hv hd ?_
  walk_at "dl"
  unfold c_prefix_signs_2 pr
  walk_at "dl"
  refine ⟨by omega, ?_⟩
  refine lcK_map (List.range t) (fun (k : Nat) => .int (k : Int)) (fun k => some (.str (bitS v (b - (k + 1))))) _ ?_ rfl (by rw [List.length_range]; omega) ?_ ?_
  · unfold rng; rw [Int.toNat_natCast]; exact List.map_congr_left fun i _ => by rw [Int.zero_add]
  · intro k m C E hC _
    have hk := List.mem_range.mp m
    walk_at "dl"
    rw [show ((k : Int) + 1) = ((k + 1 : Nat) : Int) by omega]
    refine size_under_ok (by omega) (by omega) ?_
    walk_at "dl"
    have hp := Nat.two_pow_pos (b - (k + 1))
    have hs : 2 ^ (b - (k + 1)) ≤ 2 ^ b := Nat.pow_le_pow_right (by omega) (by omega)
    refine ⟨⟨Int.natCast_pos.mpr hp, Int.lt_of_le_of_lt (Int.ofNat_le.mpr (Nat.le_trans hs h2b)) (by decide)⟩, by decide, ?_⟩
    rw [div_int, mod_int]
    exact gStr_bit (P := fun z => rdK [] z fun d => C d [.val (.int b), .val (.tuple [.int v, .int t]), .un, .val (.int k)]) (hC _ _ rfl rfl)
  · walk_at "dl"
    rw [show (List.range t).filterMap (fun k => some (PyData.str (bitS v (b - (k + 1))))) = (List.range t).map fun k => .str (bitS v (b - (k + 1))) by simp]
    unfold c_prefix_signs_3
    walk_at "dl"
    refine join_bits hb ht ?_
    walk_at "dl"
    rw [show ((b : Int) - (t : Int)) = ((b - t : Nat) : Int) by omega]
    have := signs_tail (v := v) (P := fun z => rdK [] z fun d => K d []) hb ht h
    try simp -implicitDefEqProofs only [DL.c_seq, DL.c_nil, DL.c_ret, DL.c_retN, DL.c_brk, DL.c_cont, DL.c_ifS, DL.c_do, DL.c_set, DL.c_unp, DL.c_par, DL.c_aug, DL.c_app, DL.c_ext, DL.c_seti, DL.c_popA, DL.c_pop0, DL.c_lit, DL.c_bin, DL.c_cmp, DL.bF, DL.c_val, DL.c_and, DL.c_or, DL.c_not, DL.c_andV, DL.c_orV, DL.c_notV, DL.c_if, DL.a_nil, DL.a_cons, DL.c_tup, DL.c_lst, DL.c_fn, DL.c_idx, DL.c_slice, DL.o_no, DL.o_some, DL.c_call, DL.c_callR, DL.c_callN, DL.c_isi, DL.c_meth, DL.c_chain, DL.q_one, DL.q_cons, DL.c_neg, DL.fNeg, DL.c_rev, DL.pargsK, DL.fillK, DL.refsOf, DL.backK, DL.endNew, DL.noLoc, DL.outsK, DL.startE, DL.refPos, DL.w_seq, DL.w_rng1, DL.w_rng2, DL.w_zip, DL.g_name, DL.g_tup, DL.g_cons, DL.g_nil, DL.wipeE, DL.bAdd_i, DL.bAdd_s, DL.bAdd_t, DL.bAdd_l, DL.bSub_i, DL.bMul_i, DL.bMul_s, DL.bMul_l, DL.bDiv_i, DL.bMod_i, DL.bShl_i, DL.bPow_i, DL.bXor_i, DL.bEq_i, DL.bEq_s, DL.bEq_b, DL.bEq_n, DL.bEq_t, DL.bEq_l, DL.bNe_, DL.bIs_b, DL.bIs_n, DL.nIsN_n, DL.nIsN_i, DL.nIsN_b, DL.nIsN_s, DL.nIsN_l, DL.nIsN_t, DL.bIsNot_, DL.bLt_i, DL.bLt_s, DL.bLt_t, DL.bLe_i, DL.bGt_i, DL.bGe_i, DL.bIn_t, DL.bIn_l, DL.bNotIn_, DL.fIdx_l, DL.fIdx_t, DL.fSl_l, DL.fSl_t, DL.gLen_l, DL.gLen_t, DL.gLen_s, DL.gInt_i, DL.gInt_b, DL.gStr_i, DL.gList_l, DL.gList_t, DL.gList_f, DL.gTuple_l, DL.gTuple_t, DL.gMax_2, DL.gMin_2, DL.tyD_n, DL.tyD_b, DL.tyD_i, DL.tyD_s, DL.tyD_l, DL.tyD_t, DL.bIAdd_i, DL.bIAdd_s, DL.bIMul_i, DL.fRev_t, DL.slR_v, DL.slR_o, DL.rdK_d, DL.rdK_n, DL.rdK_l, DL.slM_v, DL.slM_o, DL.mvK_d, DL.mvK_n, DL.mvK_l, DL.rdsK_0, DL.rdsK_1, DL.mvsK_0, DL.mvsK_1, DL.asgK_d, DL.asgK_n, DL.asgK_l, DL.slV_v, DL.slV_o, DL.c_var_, DL.asB_b, DL.asI_i, DL.asInt_i, DL.asNew_l, DL.asList_l, DL.asSeq_l, DL.asSeq_t, DL.asZip_l, DL.asZip_t, DL.slO_o, DL.ownK_, List.getElem?_cons_zero, List.getElem?_cons_succ, List.set_cons_zero, List.set_cons_succ, List.getElem?_nil, List.map_cons, List.map_nil, List.length_cons, List.length_nil, List.cons_append, List.nil_append, List.append_nil, if_true, if_false, ite_true, ite_false, reduceIte, Bool.false_eq_true, decide_eq_true_eq, Bool.not_true, Bool.not_false, true_and, and_true, not_true_eq_false, not_false_eq_true, Nat.reduceAdd, Nat.reduceSub, Nat.reduceLeDiff, DL.nd_1, DL.c_lc_, DL.b_yes_, DL.ix_41, DL.ix_42, DL.ix_43, DL.at_0, DL.at_1, DL.at_2, DL.at_3, Option.some.injEq, exists_eq_left', DL.kit_NoneType_int, DL.kit_NoneType_bool, DL.kit_NoneType_str, DL.kit_NoneType_tuple, DL.kit_NoneType_list, DL.kit_bool_int, DL.kit_bool_bool, DL.kit_bool_str, DL.kit_bool_tuple, DL.kit_bool_list, DL.kit_int_int, DL.kit_int_bool, DL.kit_int_str, DL.kit_int_tuple, DL.kit_int_list, DL.kit_str_int, DL.kit_str_bool, DL.kit_str_str, DL.kit_str_tuple, DL.kit_str_list, DL.kit_list_int, DL.kit_list_bool, DL.kit_list_str, DL.kit_list_tuple, DL.kit_list_list, DL.kit_tuple_int, DL.kit_tuple_bool, DL.kit_tuple_str, DL.kit_tuple_tuple, DL.kit_tuple_list, Int.reduceNeg, Int.reduceAdd, Int.reduceSub] at this
    exact this
/-- those that fit -/
def fits (b : Nat) (l : List (Nat × Nat)) (x : Nat) : List (Nat × Nat) := l.filter fun p => decide (p.1 ≤ x ∧ x ≤ p.1 + 2 ^ (b - p.2) - 1)
theorem fm_filter (l : List (Nat × Nat)) (q : Nat × Nat → Bool) : l.filterMap (fun p => if q p = true then some (pr p) else none) = (l.filter q).map pr := by
  induction l with
  | nil => rfl
  | cons a l ih =>
    rw [List.filterMap_cons, List.filter_cons]
    by_cases h : q a = true
    · rw [if_pos h, if_pos h, ih]; rfl
    · rw [if_neg h, if_neg h, ih]
theorem longest_ok {b x : Nat} {l : List (Nat × Nat)} {K : OK} (h1 : 1 ≤ b) (hb : b ≤ 20) (hx : x < 2 ^ b) (hp : ∀ p ∈ l, Pok b p) (hl : l.length ≤ 16777216) (h0 : fits b l x = [] → K .none []) (h : ∀ p ∈ fits b l x, (∀ q ∈ fits b l x, q.2 ≤ p.2) → K (pr p) []) :
    F_longest_fit [.val (.int b), .val (prs l), .val (.int x)] K := by
  refine ⟨rfl, ?_⟩
  unfold c_longest_fit
  show DL.c_seq _ _ _ [.val (.int b), .val (prs l), .val (.int x), .un, .un]
  walk_at "dl"
  unfold c_longest_fit_1
  walk_at "dl"
  refine look_int_ok h1 hb (Nat.le_refl _) hx ?_
  walk_at "dl"
  unfold c_longest_fit_2 prs
  walk_at "dl"
  refine lcK_map l pr (fun p => if decide (p.1 ≤ x ∧ x ≤ p.1 + 2 ^ (b - p.2) - 1) = true then some (pr p) else none) _ rfl rfl hl ?_ ?_
  · intro p m C E hC hE
    obtain ⟨a, c, d⟩ := hp p m
    walk_at "dl"
    refine within_ok (v := p.1) (t := p.2) h1 hb a c d ?_
    walk_at "dl"
    by_cases g : p.1 ≤ x ∧ x ≤ p.1 + 2 ^ (b - p.2) - 1
    · rw [if_pos g]
      exact hC _ _ (by rw [if_pos (decide_eq_true g)]) rfl
    · rw [if_neg g]
      exact hE _ (by rw [if_neg (fun z => g (of_decide_eq_true z))]) rfl
  · rw [fm_filter]
    change _ → _ at h0
    rw [show l.filter (fun p => decide (p.1 ≤ x ∧ x ≤ p.1 + 2 ^ (b - p.2) - 1)) = fits b l x from rfl]
    generalize fits b l x = f at *
    walk_at "dl"
    unfold c_longest_fit_3
    walk_at "dl"
    rw [List.length_map]
    cases f with
    | nil =>
      rw [if_neg (by simp)]
      exact h0 rfl
    | cons a r =>
      rw [if_pos (by simp only [List.length_cons]; omega)]
      refine ⟨fun i => (((a :: r)[i]?.map (·.2)).getD 0 : Nat), by rw [List.length_map]; simp, fun i d hd => ?_, fun i d hd hm => ?_⟩
      · obtain ⟨p, e, rfl, _⟩ := get_map hd
        refine told_bits_ok (v := p.1) (t := p.2) ?_
        simp only [e, Option.map_some, Option.getD_some]
      · obtain ⟨p, e, rfl, _⟩ := get_map hd
        walk_at "dl"
        refine h p (List.mem_of_getElem? e) fun q hq => ?_
        obtain ⟨j, hj⟩ := List.mem_iff_getElem?.mp hq
        have := (hm j (by rw [List.length_map]; exact (List.getElem?_eq_some_iff.mp hj).1)).1
        simp only [e, hj, Option.map_some, Option.getD_some] at this
        omega
end K22

/-! text S22h -/
set_option Elab.async false
set_option linter.all false
set_option maxRecDepth 100000
set_option maxHeartbeats 1000000
namespace K22
open PySem PySem.Spec PyProof.Rows L2 PySem.SeqAt DL M22
theorem pr_lay (l : List (Nat × Nat)) : PyData.canLayAll0 (l.map pr) = true ∧ PyData.depthAll (l.map pr) ≤ 1 := by
  induction l with
  | nil => exact ⟨rfl, Nat.zero_le _⟩
  | cons p l ih =>
    refine ⟨?_, ?_⟩
    · show (PyData.canLay0 (pr p) && PyData.canLayAll0 (l.map pr)) = true
      rw [ih.1]; rfl
    · show max (PyData.depth (pr p)) (PyData.depthAll (l.map pr)) ≤ 1
      have : PyData.depth (pr p) = 1 := by simp [pr, PyData.depth, PyData.depthAll]
      omega
theorem shp_l (l : List (Nat × Nat)) : Shp (.list (l.map pr)) := by
  obtain ⟨a, c⟩ := pr_lay l
  show (PyData.canLay0 (.list (l.map pr)) && decide (PyData.depth (.list (l.map pr)) ≤ 64)) = true
  rw [show PyData.canLay0 (.list (l.map pr)) = PyData.canLayAll0 (l.map pr) by simp [PyData.canLay0], a, show PyData.depth (.list (l.map pr)) = PyData.depthAll (l.map pr) + 1 by simp [PyData.depth]]
  simp; omega
theorem int_lay (l : List Nat) : PyData.canLayAll0 (l.map fun (n : Nat) => .int n) = true ∧ PyData.depthAll (l.map fun (n : Nat) => .int n) = 0 := by
  induction l with
  | nil => exact ⟨rfl, rfl⟩
  | cons p l ih =>
    refine ⟨?_, ?_⟩
    · show (PyData.canLay0 (.int p) && PyData.canLayAll0 _) = true
      rw [ih.1]; rfl
    · show max (PyData.depth (.int p)) (PyData.depthAll _) = 0
      rw [ih.2]; rfl
theorem shp_i (l : List Nat) : Shp (.list (l.map fun (n : Nat) => .int n)) := by
  obtain ⟨a, c⟩ := int_lay l
  show (PyData.canLay0 (.list _) && decide (PyData.depth (.list _) ≤ 64)) = true
  rw [show PyData.canLay0 (.list (l.map fun (n : Nat) => .int n)) = PyData.canLayAll0 (l.map fun (n : Nat) => .int n) by simp [PyData.canLay0], a, show PyData.depth (.list (l.map fun (n : Nat) => .int n)) = PyData.depthAll (l.map fun (n : Nat) => .int n) + 1 by simp [PyData.depth], c]
  rfl
theorem shp_p (p : Nat × Nat) : Shp (pr p) := by
  show (PyData.canLay0 (pr p) && decide (PyData.depth (pr p) ≤ 64)) = true
  have : PyData.depth (pr p) = 1 := by simp [pr, PyData.depth, PyData.depthAll]
  rw [this]; rfl
end K22

/-! text S22i -/
set_option Elab.async false
set_option linter.all false
set_option maxRecDepth 100000
set_option maxHeartbeats 1000000
namespace K22
open PySem PySem.Spec PyProof.Rows L2 PySem.SeqAt DL M22
theorem p12 {b : Nat} (hb : b ≤ 12) : 2 ^ b ≤ 4096 := Nat.le_trans (Nat.pow_le_pow_right (by omega) hb) (by decide)
theorem prs_len' {l : List (Nat × Nat)} (h : l.length ≤ 16777216) : Pl 60 (prs l) := by
  refine ⟨by rw [List.length_map]; exact h, fun x hx => ?_⟩
  obtain ⟨p, _, rfl⟩ := List.mem_map.mp hx
  exact ⟨by simp, fun y hy => by simp at hy; rcases hy with rfl | rfl <;> exact True.intro⟩
theorem mod1 {n : Nat} : ((n : Int) + 1) = ((n + 1 : Nat) : Int) := by omega
theorem Dlen {b lo hi : Nat} : (D b lo hi).length ≤ hi + 1 - lo := dec_len (b := b) (hi := hi) (hi + 1 - lo) lo
theorem fm_some {α : Type} (l : List α) (f : α → Dat) : l.filterMap (fun p => some (f p)) = l.map f := by simp
section
variable {sc : Dat} {r : Dr} {kt : Kt} {b lo hi : Nat} {x2 x3 x4 x5 x6 x7 x8 x9 x10 x11 x12 x13 x14 x15 x16 x17 x18 x19 x20 x21 x22 x23 x24 x25 : DL.Slot}

theorem law_2 (h : ∀ (b : Nat) (r' : Dr), 1 ≤ b → b ≤ 12 → kt.nx [.val sc, .own 0 (.lst (Dr.ds r')), x2, .val (.int b), x4, x5, x6, x7, x8, x9, x10, x11, x12, x13, x14, x15, x16, x17, x18, x19, x20, x21, x22, x23, x24, x25]) : c_law_2 kt [.val sc, .own 0 (.lst (Dr.ds r)), x2, x3, x4, x5, x6, x7, x8, x9, x10, x11, x12, x13, x14, x15, x16, x17, x18, x19, x20, x21, x22, x23, x24, x25] := by
  unfold c_law_2
  walk_at "dl"
  refine draw_ok (by decide) (by decide) fun v r' hv => ?_
  walk_at "dl"
  rw [show (1 : Int) + (v : Int) = ((1 + v : Nat) : Int) by omega]
  exact h _ r' (by omega) (by omega)

theorem law_3 (h1 : 1 ≤ b) (hb : b ≤ 12) (h : kt.nx [.val sc, .own 0 (.lst (Dr.ds r)), x2, .val (.int b), .val (.int ((2 ^ b - 1 : Nat) : Int)), x5, x6, x7, x8, x9, x10, x11, x12, x13, x14, x15, x16, x17, x18, x19, x20, x21, x22, x23, x24, x25]) : c_law_3 kt [.val sc, .own 0 (.lst (Dr.ds r)), x2, .val (.int b), x4, x5, x6, x7, x8, x9, x10, x11, x12, x13, x14, x15, x16, x17, x18, x19, x20, x21, x22, x23, x24, x25] := by
  unfold c_law_3
  walk_at "dl"
  refine ⟨⟨by omega, by omega, by decide⟩, ?_⟩
  have := Nat.two_pow_pos b
  rw [show (1 : Int) * 2 ^ (Int.toNat (b : Int)) - 1 = ((2 ^ b - 1 : Nat) : Int) by
    rw [Int.one_mul, Int.toNat_natCast, show ((2 : Int) ^ b) = ((2 ^ b : Nat) : Int) by simp]; omega]
  exact h

theorem law_4 (h1 : 1 ≤ b) (hb : b ≤ 12) (h : ∀ (lo : Nat) (r' : Dr), lo < 2 ^ b → kt.nx [.val sc, .own 0 (.lst (Dr.ds r')), x2, .val (.int b), .val (.int ((2 ^ b - 1 : Nat) : Int)), .val (.int lo), x6, x7, x8, x9, x10, x11, x12, x13, x14, x15, x16, x17, x18, x19, x20, x21, x22, x23, x24, x25]) : c_law_4 kt [.val sc, .own 0 (.lst (Dr.ds r)), x2, .val (.int b), .val (.int ((2 ^ b - 1 : Nat) : Int)), x5, x6, x7, x8, x9, x10, x11, x12, x13, x14, x15, x16, x17, x18, x19, x20, x21, x22, x23, x24, x25] := by
  have := p12 hb
  have := Nat.two_pow_pos b
  unfold c_law_4
  walk_at "dl"
  refine draw_ok (by omega) (by omega) fun v r' hv => ?_
  walk_at "dl"
  exact h v r' (by omega)

theorem law_5 (h1 : 1 ≤ b) (hb : b ≤ 12) (hl : lo < 2 ^ b) (h : ∀ (hi : Nat) (r' : Dr), lo ≤ hi → hi < 2 ^ b → kt.nx [.val sc, .own 0 (.lst (Dr.ds r')), x2, .val (.int b), .val (.int ((2 ^ b - 1 : Nat) : Int)), .val (.int lo), .val (.int hi), x7, x8, x9, x10, x11, x12, x13, x14, x15, x16, x17, x18, x19, x20, x21, x22, x23, x24, x25]) : c_law_5 kt [.val sc, .own 0 (.lst (Dr.ds r)), x2, .val (.int b), .val (.int ((2 ^ b - 1 : Nat) : Int)), .val (.int lo), x6, x7, x8, x9, x10, x11, x12, x13, x14, x15, x16, x17, x18, x19, x20, x21, x22, x23, x24, x25] := by
  have := p12 hb
  have := Nat.two_pow_pos b
  unfold c_law_5
  walk_at "dl"
  refine draw_ok (by omega) (by omega) fun v r' hv => ?_
  walk_at "dl"
  rw [show (lo : Int) + (v : Int) = ((lo + v : Nat) : Int) by omega]
  exact h _ r' (by omega) (by omega)

theorem law_6 (h1 : 1 ≤ b) (hb : b ≤ 12) (hl : lo ≤ hi) (hh : hi < 2 ^ b) (h : kt.nx [.val sc, .own 0 (.lst (Dr.ds r)), x2, .val (.int b), .val (.int ((2 ^ b - 1 : Nat) : Int)), .val (.int lo), .val (.int hi), .val (prs (D b lo hi)), .val (.tuple ((D b lo hi).map fun p => .int p.1)), x9, x10, x11, x12, x13, x14, x15, x16, x17, x18, x19, x20, x21, x22, x23, x24, x25]) : c_law_6 kt [.val sc, .own 0 (.lst (Dr.ds r)), x2, .val (.int b), .val (.int ((2 ^ b - 1 : Nat) : Int)), .val (.int lo), .val (.int hi), x7, x8, x9, x10, x11, x12, x13, x14, x15, x16, x17, x18, x19, x20, x21, x22, x23, x24, x25] := by
  unfold c_law_6
  walk_at "dl"
  refine prefixes_ok h1 (by omega) hl hh ?_
  walk_at "dl"
  refine apart_ok h1 (by omega) hl hh ?_
  walk_at "dl"
  exact h

theorem law_7 (h1 : 1 ≤ b) (hb : b ≤ 12) (hl : lo ≤ hi) (hh : hi < 2 ^ b) (h : kt.nx [.val sc, .own 0 (.lst (Dr.ds r)), x2, .val (.int b), .val (.int ((2 ^ b - 1 : Nat) : Int)), .val (.int lo), .val (.int hi), .val (prs (D b lo hi)), .val (.tuple ((D b lo hi).map fun p => .int p.1)), .own 0 (.lst ((D b lo hi).map fun p => pr (iv b p))), .un, x11, x12, x13, x14, x15, x16, x17, x18, x19, x20, x21, x22, x23, x24, x25]) : c_law_7 kt [.val sc, .own 0 (.lst (Dr.ds r)), x2, .val (.int b), .val (.int ((2 ^ b - 1 : Nat) : Int)), .val (.int lo), .val (.int hi), .val (prs (D b lo hi)), .val (.tuple ((D b lo hi).map fun p => .int p.1)), x9, x10, x11, x12, x13, x14, x15, x16, x17, x18, x19, x20, x21, x22, x23, x24, x25] := by
  have := p12 hb
  have := Dlen (b := b) (lo := lo) (hi := hi)
  unfold c_law_7 prs
  walk_at "dl"
  refine lcK_map (D b lo hi) pr (fun p => some (pr (iv b p))) _ rfl rfl (by omega) ?_ ?_
  · intro p m C E hC _
    walk_at "dl"
    refine interval_ok' h1 (by omega) (Pok.of hh (by omega) p m) ?_
    walk_at "dl"
    exact hC _ _ rfl rfl
  · rw [fm_some]
    walk_at "dl"
    exact h

theorem D_last (hl : lo ≤ hi) : ∃ (q : List (Nat × Nat)) (v : Nat), (D b lo hi).map (iv b) = q ++ [(v, hi)] := by
  obtain ⟨q, v, t, e, f⟩ := (D_tl (b := b) (by omega : lo ≤ hi + 1)).last hl
  refine ⟨q.map (iv b), v, ?_⟩
  rw [e, List.map_append]
  show _ ++ [(v, v + 2 ^ (b - t) - 1)] = _
  rw [f]; rfl
theorem D_head (hl : lo ≤ hi) : ∃ (q : List (Nat × Nat)) (v : Nat), (D b lo hi).map (iv b) = (lo, v) :: q := by
  obtain ⟨t, q, e⟩ := (D_tl (b := b) (by omega : lo ≤ hi + 1)).head hl
  refine ⟨q.map (iv b), lo + 2 ^ (b - t) - 1, ?_⟩
  rw [e]; rfl
theorem D_chain (hl : lo ≤ hi) : ((D b lo hi).map (iv b)).dropLast.map (fun p => p.2 + 1) = (((D b lo hi).map (iv b)).drop 1).map (·.1) := by
  have := (D_tl (b := b) (by omega : lo ≤ hi + 1)).chain
  rw [← List.map_dropLast, List.map_map, ← List.map_drop, List.map_map]
  rw [show ((fun p : Nat × Nat => p.2 + 1) ∘ iv b) = fun p => p.1 + 2 ^ (b - p.2) from funext fun p => by
    have := Nat.two_pow_pos (b - p.2)
    show p.1 + 2 ^ (b - p.2) - 1 + 1 = _
    omega]
  exact this
theorem cut_last {α : Type} (xs : List α) : cut xs none (some (-1)) = xs.dropLast := by
  unfold cut
  have e : HT.sIx xs.length 0 none = 0 := rfl
  have e2 : HT.sIx xs.length xs.length (some (-1)) = xs.length - 1 := by
    unfold HT.sIx
    show (if (-1 : Int) < 0 then ((-1 : Int) + (xs.length : Int)).toNat else _) = _
    rw [if_pos (by decide)]
    omega
  rw [e, e2, List.drop_zero, Nat.sub_zero, List.dropLast_eq_take]

theorem law_8 (h1 : 1 ≤ b) (hb : b ≤ 12) (hl : lo ≤ hi) (hh : hi < 2 ^ b) (h : kt.nx [.val sc, .own 0 (.lst (Dr.ds r)), x2, .val (.int b), .val (.int ((2 ^ b - 1 : Nat) : Int)), .val (.int lo), .val (.int hi), .val (prs (D b lo hi)), .val (.tuple ((D b lo hi).map fun p => .int p.1)), .own 0 (.lst ((D b lo hi).map fun p => pr (iv b p))), .un, .un, x12, x13, x14, x15, x16, x17, x18, x19, x20, x21, x22, x23, x24, x25]) : c_law_8 kt [.val sc, .own 0 (.lst (Dr.ds r)), x2, .val (.int b), .val (.int ((2 ^ b - 1 : Nat) : Int)), .val (.int lo), .val (.int hi), .val (prs (D b lo hi)), .val (.tuple ((D b lo hi).map fun p => .int p.1)), .own 0 (.lst ((D b lo hi).map fun p => pr (iv b p))), .un, x11, x12, x13, x14, x15, x16, x17, x18, x19, x20, x21, x22, x23, x24, x25] := by
  have := p12 hb
  have := Dlen (b := b) (lo := lo) (hi := hi)
  have em : (D b lo hi).map (fun p => pr (iv b p)) = ((D b lo hi).map (iv b)).map pr := by rw [List.map_map]; rfl
  unfold c_law_8 prs
  walk_at "dl"
  refine lcK_map (D b lo hi) pr (fun p => some (pr (iv b p))) _ rfl rfl (by omega) ?_ ?_
  · intro p m C E hC _
    walk_at "dl"
    refine ends_ok (by omega) (Pok.of hh (by omega) p m).1 ?_
    walk_at "dl"
    exact hC _ _ rfl rfl
  · rw [fm_some, em]
    walk_at "dl"
    refine ⟨⟨shp_l _, shp_l _⟩, ?_⟩
    obtain ⟨q, v, e⟩ := D_head (b := b) hl
    obtain ⟨q', v', e'⟩ := D_last (b := b) hl
    have ch := D_chain (b := b) hl
    rw [em] at h
    have lenL : ((D b lo hi).map (iv b)).length ≤ 4096 := by rw [List.length_map]; omega
    have a0 : atI (((D b lo hi).map (iv b)).map pr) 0 = some (pr (lo, v)) := by rw [e]; exact at_0
    have a1 : atI (((D b lo hi).map (iv b)).map pr) (-1) = some (pr (v', hi)) := by rw [e', List.map_append]; exact at_last
    generalize (D b lo hi).map (iv b) = M at *
    have lay := shp_l M
    rw [PySem.SeqAt.eqv_refl _ (canLay_of_shaped lay)]
    walk_at "dl"
    refine ⟨_, a0, ?_⟩
    unfold pr
    walk_at "dl"
    simp only [decide_true]
    walk_at "dl"
    refine ⟨_, a1, ?_⟩
    unfold pr
    walk_at "dl"
    simp only [decide_true]
    walk_at "dl"
    rw [cut_last, ← List.map_dropLast]
    refine lcK_map M.dropLast pr (fun p => some (.int ((p.2 + 1 : Nat) : Int))) _ rfl rfl (by rw [List.length_dropLast]; omega) ?_ ?_
    · intro p m C E hC _
      rw [show pr p = .tuple [.int p.1, .int p.2] from rfl]
      walk_at "dl"
      rw [mod1]
      exact hC _ _ rfl rfl
    · rw [fm_some]
      walk_at "dl"
      rw [cut_from1, ← List.map_drop]
      refine lcK_map (M.drop 1) pr (fun p => some (.int p.1)) _ rfl rfl (by rw [List.length_drop]; omega) ?_ ?_
      · intro p m C E hC _
        rw [show pr p = .tuple [.int p.1, .int p.2] from rfl]
        walk_at "dl"
        exact hC _ _ rfl rfl
      · rw [fm_some]
        walk_at "dl"
        have e1 : M.dropLast.map (fun p => PyData.int ((p.2 + 1 : Nat) : Int)) = (M.dropLast.map fun p => p.2 + 1).map fun (n : Nat) => PyData.int n := by rw [List.map_map]; rfl
        have e2 : (M.drop 1).map (fun p => PyData.int (p.1 : Int)) = ((M.drop 1).map (·.1)).map fun (n : Nat) => PyData.int n := by rw [List.map_map]; rfl
        rw [e1, e2, ch]
        refine ⟨⟨shp_i _, shp_i _⟩, ?_⟩
        rw [PySem.SeqAt.eqv_refl _ (canLay_of_shaped (shp_i _))]
        walk_at "dl"
        exact h

theorem law_9 (h1 : 1 ≤ b) (hb : b ≤ 12) (hl : lo ≤ hi) (hh : hi < 2 ^ b) (h : kt.nx [.val sc, .own 0 (.lst (Dr.ds r)), x2, .val (.int b), .val (.int ((2 ^ b - 1 : Nat) : Int)), .val (.int lo), .val (.int hi), .val (prs (D b lo hi)), .val (.tuple ((D b lo hi).map fun p => .int p.1)), .val (.list ((D b lo hi).map fun p => pr (iv b p))), .un, .un, x12, x13, x14, x15, x16, x17, x18, x19, x20, x21, x22, x23, x24, x25]) : c_law_9 kt [.val sc, .own 0 (.lst (Dr.ds r)), x2, .val (.int b), .val (.int ((2 ^ b - 1 : Nat) : Int)), .val (.int lo), .val (.int hi), .val (prs (D b lo hi)), .val (.tuple ((D b lo hi).map fun p => .int p.1)), .own 0 (.lst ((D b lo hi).map fun p => pr (iv b p))), .un, .un, x12, x13, x14, x15, x16, x17, x18, x19, x20, x21, x22, x23, x24, x25] := by
  have := p12 hb
  have := Dlen (b := b) (lo := lo) (hi := hi)
  unfold c_law_9
  walk_at "dl"
  refine lcK_map (D b lo hi) (fun p => pr (iv b p)) (fun p => some (.int p.1)) _ rfl rfl (by omega) ?_ ?_
  · intro p m C E hC _
    rw [show pr (iv b p) = .tuple [.int p.1, .int (iv b p).2] from rfl]
    walk_at "dl"
    exact hC _ _ rfl rfl
  · rw [fm_some]
    walk_at "dl"
    refine same_ok ⟨by rw [List.length_map]; omega, fun x hx => ?_⟩ rfl ?_
    · obtain ⟨p, _, rfl⟩ := List.mem_map.mp hx
      exact True.intro
    · walk_at "dl"
      refine are_apart_ok h1 (by omega) hl hh ?_
      walk_at "dl"
      simp only [decide_true]
      walk_at "dl"
      exact h

theorem law_10 (h1 : 1 ≤ b) (hb : b ≤ 12) (hl : lo ≤ hi) (hh : hi < 2 ^ b) (h : kt.nx [.val sc, .own 0 (.lst (Dr.ds r)), x2, .val (.int b), .val (.int ((2 ^ b - 1 : Nat) : Int)), .val (.int lo), .val (.int hi), .val (prs (D b lo hi)), x8, x9, .un, x11, x12, x13, x14, x15, x16, x17, x18, x19, x20, x21, x22, x23, x24, x25]) : c_law_10 kt [.val sc, .own 0 (.lst (Dr.ds r)), x2, .val (.int b), .val (.int ((2 ^ b - 1 : Nat) : Int)), .val (.int lo), .val (.int hi), .val (prs (D b lo hi)), x8, x9, x10, x11, x12, x13, x14, x15, x16, x17, x18, x19, x20, x21, x22, x23, x24, x25] := by
  have := p12 hb
  have := Dlen (b := b) (lo := lo) (hi := hi)
  have k := len_all (b := b) hl hh
  unfold c_law_10 prs
  walk_at "dl"
  refine ⟨.inl ⟨by decide, by decide⟩, ?_⟩
  walk_at "dl"
  rw [List.length_map, if_neg (by split <;> omega)]
  refine lcK_map (D b lo hi) pr (fun p => none) _ rfl rfl (by omega) ?_ ?_
  · intro p m C E _ hE
    have o := Pok.of hh (by omega) p m
    walk_at "dl"
    refine is_prefix_ok (v := p.1) (t := p.2) h1 (by omega) o.1 o.2.1 o.2.2 ?_
    walk_at "dl"
    simp only [decide_true]
    walk_at "dl"
    exact hE _ rfl rfl
  · rw [show (D b lo hi).filterMap (fun _ => (none : Option Dat)) = [] by simp]
    walk_at "dl"
    rw [if_neg (by decide)]
    exact h

end
end K22

/-! text S22j -/
set_option Elab.async false
set_option linter.all false
set_option maxRecDepth 100000
set_option maxHeartbeats 1000000
namespace K22
open PySem PySem.Spec PyProof.Rows L2 PySem.SeqAt DL M22
theorem ifS_or {s t : SB} {a : SS} {k : Kt} {ρ : En} : c_ifS (c_or s t) a c_nil k ρ = s ρ fun b ρ1 => if b = true then a k ρ1 else c_ifS t a c_nil k ρ1 := by
  have e : (fun (b : Bool) ρ1 => (if b = true then (fun (c : Bool) ρ2 => if c = true then a k ρ2 else c_nil k ρ2) true ρ1 else t ρ1 fun c ρ2 => if c = true then a k ρ2 else c_nil k ρ2)) = fun b ρ1 => if b = true then a k ρ1 else c_ifS t a c_nil k ρ1 := by
    funext b ρ1
    cases b <;> rfl
  exact congrArg (s ρ) e
def stC (G : DL.Spec) (R : SA) (kb : Bool → En → Prop) : Vl → En → Prop := fun x ρ1 => R ρ1 fun xs ρ2 => mvsK ρ2 (x :: xs) fun ds ρ3 => G (ds.map .val) fun d _ => asB (fun b ρ => kb (!b) ρ) (.dat d) ρ3
theorem stageB {G : DL.Spec} {S : SE} {R : SA} {kb : Bool → En → Prop} {ρ : En} : c_not (c_val (c_call G (a_cons S R))) ρ kb = S ρ (stC G R kb) := rfl
theorem ifS_ {t : SB} {a : SS} {k : Kt} {ρ : En} : c_ifS t a c_nil k ρ = t ρ fun b ρ1 => if b = true then a k ρ1 else k.nx ρ1 := rfl
end K22

/-! text L13 -/
set_option Elab.async false
set_option linter.all false
set_option maxRecDepth 100000
set_option maxHeartbeats 1000000
namespace K22
open PySem PySem.Spec PyProof.Rows L2 PySem.SeqAt DL M22
section
variable {sc : Dat} {r : Dr} {kt : Kt} {b lo hi : Nat} {x2 x3 x4 x5 x6 x7 x8 x9 x10 x11 x12 x13 x14 x15 x16 x17 x18 x19 x20 x21 x22 x23 x24 x25 : DL.Slot}

theorem law_13 (h1 : 1 ≤ b) (hb : b ≤ 12) (hl : lo ≤ hi) (hh : hi < 2 ^ b) (h : ∀ x12 x13 x14, kt.nx [.val sc, .own 0 (.lst (Dr.ds r)), x2, .val (.int b), .val (.int ((2 ^ b - 1 : Nat) : Int)), .val (.int lo), .val (.int hi), .val (prs (D b lo hi)), x8, x9, x10, x11, x12, x13, x14, x15, x16, x17, x18, x19, x20, x21, x22, x23, x24, x25]) : c_law_13 kt [.val sc, .own 0 (.lst (Dr.ds r)), x2, .val (.int b), .val (.int ((2 ^ b - 1 : Nat) : Int)), .val (.int lo), .val (.int hi), .val (prs (D b lo hi)), x8, x9, x10, x11, x12, x13, x14, x15, x16, x17, x18, x19, x20, x21, x22, x23, x24, x25] := by
  have := p12 hb
  have := Dlen (b := b) (lo := lo) (hi := hi)
  have T := D_tl (b := b) (by omega : lo ≤ hi + 1)
  unfold c_law_13 c_for prs
  walk_at "dl"
  refine ⟨fun i ρ => ∃ x12 x13 x14, ρ = [.val sc, .own 0 (.lst (Dr.ds r)), x2, .val (.int b), .val (.int ((2 ^ b - 1 : Nat) : Int)), .val (.int lo), .val (.int hi), .val (.tuple ((D b lo hi).map pr)), x8, x9, x10, x11, x12, x13, x14, x15, x16, x17, x18, x19, x20, x21, x22, x23, x24, x25], ⟨_, _, _, rfl⟩, ?_, ?_⟩
  · rintro i d ρ hd ⟨x12, x13, x14, rfl⟩
    obtain ⟨p, hp', rfl, hlt⟩ := get_map hd
    have m : (p.1, p.2) ∈ D b lo hi := List.mem_of_getElem? hp'
    have w := (T.mem m).2
    have wl := w.le
    rw [show pr p = .tuple [.int p.1, .int p.2] from rfl]
    walk_at "dlg"
    walk_at "dl"
    unfold c_law_11
    walk_at "dl"
    have es : ((b : Int) - (p.2 : Int) + 1) = ((b - p.2 + 1 : Nat) : Int) := by omega
    rw [es]
    refine ⟨⟨by omega, by omega, by decide⟩, ?_⟩
    rw [show (1 : Int) * 2 ^ (Int.toNat ((b - p.2 + 1 : Nat) : Int)) = ((2 ^ (b - p.2 + 1) : Nat) : Int) by rw [Int.one_mul, Int.toNat_natCast]; simp]
    unfold c_law_12
    walk_at "dl"
    have fin : ∀ y14, (∃ x12 x13 x14, [.val sc, .own 0 (.lst (Dr.ds r)), x2, .val (.int b), .val (.int ((2 ^ b - 1 : Nat) : Int)), .val (.int lo), .val (.int hi), .val (.tuple ((D b lo hi).map pr)), x8, x9, x10, x11, .val (.int p.1), .val (.int p.2), y14, x15, x16, x17, x18, x19, x20, x21, x22, x23, x24, x25] = [.val sc, .own 0 (.lst (Dr.ds r)), x2, .val (.int b), .val (.int ((2 ^ b - 1 : Nat) : Int)), .val (.int lo), .val (.int hi), .val (.tuple ((D b lo hi).map pr)), x8, x9, x10, x11, x12, x13, x14, x15, x16, x17, x18, x19, x20, x21, x22, x23, x24, x25]) := fun y14 => ⟨_, _, _, rfl⟩
    by_cases t0 : 0 < p.2
    · rw [if_pos (by omega)]
      have hp := Nat.two_pow_pos (b - p.2 + 1)
      have hs : 2 ^ (b - p.2 + 1) ≤ 2 ^ b := Nat.pow_le_pow_right (by omega) (by omega)
      have hj : (0 : Int) < ((2 ^ (b - p.2 + 1) : Nat) : Int) ∧ ((2 ^ (b - p.2 + 1) : Nat) : Int) < 1073741824 := ⟨Int.natCast_pos.mpr hp, by omega⟩
      have hm : ∀ z : Int, CMul z ((2 ^ (b - p.2 + 1) : Nat) : Int) := fun z => .inr ⟨by omega, by omega⟩
      have nw := T.wide m t0
      refine ⟨hj, hm _, ?_⟩
      rw [div_int, ← Int.natCast_mul]
      by_cases g : lo ≤ p.1 / 2 ^ (b - p.2 + 1) * 2 ^ (b - p.2 + 1)
      · rw [if_pos (Int.ofNat_le.mpr g)]
        refine ⟨hj, hm _, ?_⟩
        rw [if_neg (by
          intro z
          refine nw ⟨g, ?_⟩
          generalize p.1 / 2 ^ (b - p.2 + 1) * 2 ^ (b - p.2 + 1) = q at *
          generalize 2 ^ (b - p.2 + 1) = w at *
          omega)]
        exact fin _
      · rw [if_neg (fun z => g (Int.ofNat_le.mp z))]
        exact fin _
    · rw [if_neg (by omega)]
      exact fin _
  · rintro ρ ⟨x12, x13, x14, rfl⟩
    exact h _ _ _

end
end K22

/-! text L17 -/
set_option Elab.async false
set_option linter.all false
set_option maxRecDepth 100000
set_option maxHeartbeats 1000000
namespace K22
open PySem PySem.Spec PyProof.Rows L2 PySem.SeqAt DL M22
section
variable {sc : Dat} {r : Dr} {kt : Kt} {b lo hi : Nat} {x2 x3 x4 x5 x6 x7 x8 x9 x10 x11 x12 x13 x14 x15 x16 x17 x18 x19 x20 x21 x22 x23 x24 x25 : DL.Slot}

theorem law_17 (h1 : 1 ≤ b) (hb : b ≤ 12) (hl : lo ≤ hi) (hh : hi < 2 ^ b) (h : ∀ (r' : Dr) x15 x16, kt.nx [.val sc, .own 0 (.lst (Dr.ds r')), x2, .val (.int b), .val (.int ((2 ^ b - 1 : Nat) : Int)), .val (.int lo), .val (.int hi), .val (prs (D b lo hi)), x8, x9, x10, x11, x12, x13, x14, x15, x16, x17, x18, x19, x20, x21, x22, x23, x24, x25]) : c_law_17 kt [.val sc, .own 0 (.lst (Dr.ds r)), x2, .val (.int b), .val (.int ((2 ^ b - 1 : Nat) : Int)), .val (.int lo), .val (.int hi), .val (prs (D b lo hi)), x8, x9, x10, x11, x12, x13, x14, x15, x16, x17, x18, x19, x20, x21, x22, x23, x24, x25] := by
  have h2 := p12 hb
  have hl0 := Dlen (b := b) (lo := lo) (hi := hi)
  unfold c_law_17
  walk_at "dl"
  by_cases g : hi < 2 ^ b - 1
  · rw [if_pos (by omega)]
    unfold c_law_14
    walk_at "dl"
    refine draw_ok (by omega) (by omega) fun v r' hv => ?_
    have hv : hi + 1 + v < 2 ^ b := by omega
    walk_at "dl"
    rw [show (hi : Int) + 1 + (v : Int) = ((hi + 1 + v : Nat) : Int) by omega]
    have k := D_sub (b := b) (lo := lo) (mid := hi) (hi := hi + 1 + v) hl (by omega)
    have j := J_two (b := b) (lo := lo) (mid := hi) (hi := hi + 1 + v) hl (by omega)
    have l1 := Dlen (b := b) (lo := hi + 1) (hi := hi + 1 + v)
    have l2 := Dlen (b := b) (lo := lo) (hi := hi + 1 + v)
    unfold c_law_15
    walk_at "dl"
    refine prefixes_ok h1 (by omega) (by omega) hv ?_
    walk_at "dl"
    unfold c_law_16 prs
    have hS : ∀ {d e : Dat} {K : OK}, Pl 60 d → d = e → K (.bool true) [] → F_law_same [.val d, .val e] K := same_ok
    generalize F_law_same = GS at hS ⊢
    have hP : ∀ {b lo hi : Nat} {K : OK}, 1 ≤ b → b ≤ 20 → lo ≤ hi → hi < 2 ^ b → K (prs (D b lo hi)) [] → F_prefixes_of [.val (.int b), .val (.int lo), .val (.int hi)] K := prefixes_ok
    generalize F_prefixes_of = GP at hP ⊢
    have hJ : ∀ {b : Nat} {l : List (Nat × Nat)} {K : OK}, 1 ≤ b → b ≤ 20 → (∀ p ∈ l, Pok b p) → l.length < 16777216 → K (prs (J b l)) [] → F_joined_prefixes [.val (.int b), .val (prs l)] K := joined_ok
    generalize F_joined_prefixes = GJ at hJ ⊢
    rw [ifS_or]
    generalize hT : c_ifS (c_not _) _ c_nil _ = T
    walk_at "dl"
    rw [mod1]
    refine hP h1 (by omega) (by omega) hv ?_
    unfold prs
    walk_at "dl"
    rw [List.length_map, List.length_map, List.length_map, if_neg (by omega)]
    subst hT
    walk_at "dl"
    rw [mod1]
    refine hP h1 (by omega) (by omega) hv ?_
    unfold prs
    walk_at "dl"
    refine ⟨by rw [List.length_map, List.length_map]; omega, ?_⟩
    rw [← List.map_append]
    refine hJ (l := D b lo hi ++ D b (hi + 1) (hi + 1 + v)) h1 (by omega) (fun p m => ?_) (by rw [List.length_append]; omega) ?_
    · rcases List.mem_append.mp m with m | m
      · exact Pok.of hh (by omega) p m
      · exact Pok.of hv (by omega) p m
    · walk_at "dl"
      rw [j]
      refine hS (prs_len' (by omega)) rfl ?_
      walk_at "dl"
      exact h _ _ _
  · rw [if_neg (by omega)]
    exact h _ _ _

end
end K22

/-! text L18 -/
set_option Elab.async false
set_option linter.all false
set_option maxRecDepth 100000
set_option maxHeartbeats 1000000
namespace K22
open PySem PySem.Spec PyProof.Rows L2 PySem.SeqAt DL M22
section
variable {sc : Dat} {r : Dr} {kt : Kt} {b lo hi : Nat} {x2 x3 x4 x5 x6 x7 x8 x9 x10 x11 x12 x13 x14 x15 x16 x17 x18 x19 x20 x21 x22 x23 x24 x25 : DL.Slot}

theorem law_18 (h1 : 1 ≤ b) (hb : b ≤ 12) (hl : lo ≤ hi) (hh : hi < 2 ^ b) (h : kt.nx [.val sc, .own 0 (.lst (Dr.ds r)), x2, .val (.int b), .val (.int ((2 ^ b - 1 : Nat) : Int)), .val (.int lo), .val (.int hi), .val (prs (D b lo hi)), x8, x9, x10, x11, .un, .un, x14, x15, x16, x17, x18, x19, x20, x21, x22, x23, x24, x25]) : c_law_18 kt [.val sc, .own 0 (.lst (Dr.ds r)), x2, .val (.int b), .val (.int ((2 ^ b - 1 : Nat) : Int)), .val (.int lo), .val (.int hi), .val (prs (D b lo hi)), x8, x9, x10, x11, x12, x13, x14, x15, x16, x17, x18, x19, x20, x21, x22, x23, x24, x25] := by
  have h2 := p12 hb
  have hl0 := Dlen (b := b) (lo := lo) (hi := hi)
  have hp : 2 ^ (b + 1) = 2 * 2 ^ b := by rw [Nat.pow_succ, Nat.mul_comm]
  unfold c_law_18 prs
  walk_at "dl"
  refine ⟨.inl ⟨by decide, by decide⟩, .inl ⟨by decide, by decide⟩, ?_⟩
  rw [mod1, show (2 : Int) * (lo : Int) = ((2 * lo : Nat) : Int) by omega, show (2 : Int) * (hi : Int) + 1 = ((2 * hi + 1 : Nat) : Int) by omega]
  refine prefixes_ok (by omega) (by omega) (by omega) (by omega) ?_
  walk_at "dl"
  refine lcK_map (D b lo hi) pr (fun p => some (pr (2 * p.1, p.2))) _ rfl rfl (by omega) ?_ ?_
  · intro p m C E hC _
    rw [show pr p = .tuple [.int p.1, .int p.2] from rfl]
    walk_at "dl"
    refine ⟨.inl ⟨by decide, by decide⟩, ?_⟩
    rw [show (2 : Int) * (p.1 : Int) = ((2 * p.1 : Nat) : Int) by omega]
    exact hC _ _ rfl rfl
  · rw [fm_some]
    walk_at "dl"
    have e : (D b lo hi).map (fun p => pr (2 * p.1, p.2)) = (D (b + 1) (2 * lo) (2 * hi + 1)).map pr := by
      rw [← D_dbl hl, List.map_map]; rfl
    rw [e]
    refine same_ok (prs_len' (by rw [← D_dbl hl, List.length_map]; omega)) rfl ?_
    walk_at "dl"
    exact h

end
end K22

/-! text L19 -/
set_option Elab.async false
set_option linter.all false
set_option maxRecDepth 100000
set_option maxHeartbeats 1000000
namespace K22
open PySem PySem.Spec PyProof.Rows L2 PySem.SeqAt DL M22
def stK (G : DL.Spec) (R : SA) (A B : SS) (k : Kt) : Vl → En → Prop := fun x ρ1 => R ρ1 fun xs ρ2 => mvsK ρ2 (x :: xs) fun ds ρ3 => G (ds.map .val) fun d _ => asB (fun b ρ => if (!b) = true then A k ρ else B k ρ) (.dat d) ρ3
theorem stage {G : DL.Spec} {S : SE} {R : SA} {A B : SS} {k : Kt} {ρ : En} : c_ifS (c_not (c_val (c_call G (a_cons S R)))) A B k ρ = S ρ (stK G R A B k) := rfl
def B19 : SS := c_ifS (c_not (c_val (c_call F_law_same (a_cons (c_call F_prefixes_of (a_cons (c_bin bAdd (c_var 3) (c_lit (PyData.int 1))) (a_cons (c_bin bAdd (c_bin bAdd (c_var 5) (c_var 4)) (c_lit (PyData.int 1))) (a_cons (c_bin bAdd (c_bin bAdd (c_var 6) (c_var 4)) (c_lit (PyData.int 1))) a_nil)))) (a_cons (c_fn gTuple (a_cons (c_lc [12, 13] (w_seq (c_var 7)) (g_tup 2 (g_cons (g_name 12) (g_cons (g_name 13) g_nil))) b_yes (c_tup (a_cons (c_bin bAdd (c_bin bAdd (c_var 12) (c_var 4)) (c_lit (PyData.int 1))) (a_cons (c_bin bAdd (c_var 13) (c_lit (PyData.int 1))) a_nil)))) a_nil)) a_nil))))) (c_ret (c_lit (PyData.bool false))) c_nil
theorem e19 : c_law_19 = c_ifS (c_or (c_val (c_cmp bLt (c_var 6) (c_var 4))) (c_val (c_cmp bGt (c_var 5) (c_lit (PyData.int 0))))) B19 c_nil := rfl
section
variable {sc : Dat} {r : Dr} {kt : Kt} {b lo hi : Nat} {x2 x3 x4 x5 x6 x7 x8 x9 x10 x11 x12 x13 x14 x15 x16 x17 x18 x19 x20 x21 x22 x23 x24 x25 : DL.Slot}

theorem law_19 (h1 : 1 ≤ b) (hb : b ≤ 12) (hl : lo ≤ hi) (hh : hi < 2 ^ b) (h : ∀ x12 x13, kt.nx [.val sc, .own 0 (.lst (Dr.ds r)), x2, .val (.int b), .val (.int ((2 ^ b - 1 : Nat) : Int)), .val (.int lo), .val (.int hi), .val (prs (D b lo hi)), x8, x9, x10, x11, x12, x13, x14, x15, x16, x17, x18, x19, x20, x21, x22, x23, x24, x25]) : c_law_19 kt [.val sc, .own 0 (.lst (Dr.ds r)), x2, .val (.int b), .val (.int ((2 ^ b - 1 : Nat) : Int)), .val (.int lo), .val (.int hi), .val (prs (D b lo hi)), x8, x9, x10, x11, x12, x13, x14, x15, x16, x17, x18, x19, x20, x21, x22, x23, x24, x25] := by
  have h2 := p12 hb
  have hl0 := Dlen (b := b) (lo := lo) (hi := hi)
  have hp : 2 ^ (b + 1) = 2 * 2 ^ b := by rw [Nat.pow_succ, Nat.mul_comm]
  have hp0 := Nat.two_pow_pos b
  generalize htp : ((2 ^ b - 1 : Nat) : Int) = tp at h ⊢
  have body : ∀ k2 : Kt, k2.nx = kt.nx → B19 k2 [.val sc, .own 0 (.lst (Dr.ds r)), x2, .val (.int b), .val (.int tp), .val (.int lo), .val (.int hi), .val (prs (D b lo hi)), x8, x9, x10, x11, x12, x13, x14, x15, x16, x17, x18, x19, x20, x21, x22, x23, x24, x25] := fun k2 hk => by
    unfold B19 prs
    have hS : ∀ {d e : Dat} {K : OK}, Pl 60 d → d = e → K (.bool true) [] → F_law_same [.val d, .val e] K := same_ok
    generalize F_law_same = GS at hS ⊢
    have hP : ∀ {b lo hi : Nat} {K : OK}, 1 ≤ b → b ≤ 20 → lo ≤ hi → hi < 2 ^ b → K (prs (D b lo hi)) [] → F_prefixes_of [.val (.int b), .val (.int lo), .val (.int hi)] K := prefixes_ok
    generalize F_prefixes_of = GP at hP ⊢
    rw [stage]
    walk_at "dl"
    rw [mod1, show (lo : Int) + tp + 1 = ((lo + 2 ^ b : Nat) : Int) by omega, show (hi : Int) + tp + 1 = ((hi + 2 ^ b : Nat) : Int) by omega]
    refine hP (by omega) (by omega) (by omega) (by omega) ?_
    unfold stK
    walk_at "dl"
    refine lcK_map (D b lo hi) pr (fun p => some (pr (p.1 + 2 ^ b, p.2 + 1))) _ rfl rfl (by omega) ?_ ?_
    · intro p m C E hC _
      rw [show pr p = .tuple [.int p.1, .int p.2] from rfl]
      walk_at "dl"
      rw [mod1, show (p.1 : Int) + tp + 1 = ((p.1 + 2 ^ b : Nat) : Int) by omega]
      exact hC _ _ rfl rfl
    · rw [fm_some]
      walk_at "dl"
      have e : (D b lo hi).map (fun p => pr (p.1 + 2 ^ b, p.2 + 1)) = (D (b + 1) (lo + 2 ^ b) (hi + 2 ^ b)).map pr := by
        rw [← D_shift hl hh, List.map_map]; rfl
      rw [e]
      refine hS (prs_len' (by rw [← D_shift hl hh, List.length_map]; omega)) rfl ?_
      walk_at "dl"
      rw [hk]
      exact h _ _
  rw [e19]
  walk_at "dl"
  by_cases g : hi < 2 ^ b - 1
  · rw [if_pos (by omega)]
    exact body _ rfl
  · rw [if_neg (by omega)]
    by_cases g2 : 0 < lo
    · rw [if_pos (by omega)]
      exact body _ rfl
    · rw [if_neg (by omega)]
      exact h _ _

end
end K22

/-! text L20 -/
set_option Elab.async false
set_option linter.all false
set_option maxRecDepth 100000
set_option maxHeartbeats 1000000
namespace K22
open PySem PySem.Spec PyProof.Rows L2 PySem.SeqAt DL M22
section
variable {sc : Dat} {r : Dr} {kt : Kt} {b lo hi : Nat} {ps : List (Nat × Nat)} {x2 x3 x4 x5 x6 x7 x8 x9 x10 x11 x12 x13 x14 x15 x16 x17 x18 x19 x20 x21 x22 x23 x24 x25 : DL.Slot}
theorem law_20 (h1 : 1 ≤ b) (hb : b ≤ 12) (h : ∀ (ps : List (Nat × Nat)) (r' : Dr), ps.length ≤ 8 → (∀ p ∈ ps, Pok b p) → kt.nx [.val sc, .own 0 (.lst (Dr.ds r')), x2, .val (.int b), .val (.int ((2 ^ b - 1 : Nat) : Int)), x5, x6, x7, x8, x9, x10, x11, x12, x13, x14, x15, x16, .val (prs ps), .un, x19, x20, x21, x22, x23, x24, x25]) : c_law_20 kt [.val sc, .own 0 (.lst (Dr.ds r)), x2, .val (.int b), .val (.int ((2 ^ b - 1 : Nat) : Int)), x5, x6, x7, x8, x9, x10, x11, x12, x13, x14, x15, x16, x17, x18, x19, x20, x21, x22, x23, x24, x25] := by
  unfold c_law_20
  walk_at "dl"
  refine draw_ok (by decide) (by decide) fun v r' hv => ?_
  walk_at "dl"
  refine ⟨by omega, ?_⟩
  refine lcK_st (α := Nat × Nat) (S := Dr) v pr (Pok b) (fun r => [.val sc, .own 0 (.lst (Dr.ds r)), x2, .val (.int b), .val (.int ((2 ^ b - 1 : Nat) : Int)), x5, x6, x7, x8, x9, x10, x11, x12, x13, x14, x15, x16, x17, .un, x19, x20, x21, x22, x23, x24, x25]) r' (by unfold rng; rw [List.length_map, List.length_range, Int.toNat_natCast]) rfl (by omega) ?_ ?_
  · intro d _ s C E hC
    walk_at "dl"
    refine prefix_ok (by omega) fun p r2 hp => ?_
    walk_at "dl"
    exact hC p r2 _ hp rfl
  · intro xs s hx hP
    walk_at "dl"
    exact h xs s (by omega) hP
end
end K22

/-! text L21 -/
set_option Elab.async false
set_option linter.all false
set_option maxRecDepth 100000
set_option maxHeartbeats 1000000
namespace K22
open PySem PySem.Spec PyProof.Rows L2 PySem.SeqAt DL M22
section
variable {sc : Dat} {r : Dr} {kt : Kt} {b lo hi : Nat} {ps : List (Nat × Nat)} {x2 x3 x4 x5 x6 x7 x8 x9 x10 x11 x12 x13 x14 x15 x16 x17 x18 x19 x20 x21 x22 x23 x24 x25 : DL.Slot}
theorem law_21 (h1 : 1 ≤ b) (hb : b ≤ 12) (hn : ps.length ≤ 8) (hp : ∀ p ∈ ps, Pok b p) (h : kt.nx [.val sc, .own 0 (.lst (Dr.ds r)), x2, .val (.int b), .val (.int ((2 ^ b - 1 : Nat) : Int)), x5, x6, x7, x8, x9, x10, x11, x12, x13, x14, x15, x16, .val (prs ps), x18, .val (prs (J b ps)), .val (.tuple []), x21, x22, x23, x24, x25]) : c_law_21 kt [.val sc, .own 0 (.lst (Dr.ds r)), x2, .val (.int b), .val (.int ((2 ^ b - 1 : Nat) : Int)), x5, x6, x7, x8, x9, x10, x11, x12, x13, x14, x15, x16, .val (prs ps), x18, x19, x20, x21, x22, x23, x24, x25] := by
  unfold c_law_21
  walk_at "dl"
  refine joined_ok h1 (by omega) hp (by omega) ?_
  walk_at "dl"
  exact h
end
end K22

/-! text L22 -/
set_option Elab.async false
set_option linter.all false
set_option maxRecDepth 100000
set_option maxHeartbeats 1000000
namespace K22
open PySem PySem.Spec PyProof.Rows L2 PySem.SeqAt DL M22
section
variable {sc : Dat} {r : Dr} {kt : Kt} {b lo hi : Nat} {ps : List (Nat × Nat)} {x2 x3 x4 x5 x6 x7 x8 x9 x10 x11 x12 x13 x14 x15 x16 x17 x18 x19 x20 x21 x22 x23 x24 x25 : DL.Slot}
theorem law_22 (h1 : 1 ≤ b) (hb : b ≤ 12) (hn : ps.length ≤ 8) (hp : ∀ p ∈ ps, Pok b p) (h : ∀ x21 x22, kt.nx [.val sc, .own 0 (.lst (Dr.ds r)), x2, .val (.int b), .val (.int ((2 ^ b - 1 : Nat) : Int)), x5, x6, x7, x8, x9, x10, x11, x12, x13, x14, x15, x16, .val (prs ps), x18, .val (prs (J b ps)), .val (prs (J b ps)), x21, x22, x23, x24, x25]) : c_law_22 kt [.val sc, .own 0 (.lst (Dr.ds r)), x2, .val (.int b), .val (.int ((2 ^ b - 1 : Nat) : Int)), x5, x6, x7, x8, x9, x10, x11, x12, x13, x14, x15, x16, .val (prs ps), x18, .val (prs (J b ps)), .val (.tuple []), x21, x22, x23, x24, x25] := by
  have h2 := p12 hb
  unfold c_law_22 c_for
  walk_at "dl"
  refine runs_prog_ok (by omega) (fun p m => (hp p m).1) (by omega) ?_
  walk_at "dl"
  refine ⟨fun i ρ => ∃ x21 x22, ρ = [.val sc, .own 0 (.lst (Dr.ds r)), x2, .val (.int b), .val (.int ((2 ^ b - 1 : Nat) : Int)), x5, x6, x7, x8, x9, x10, x11, x12, x13, x14, x15, x16, .val (prs ps), x18, .val (prs (J b ps)), .val (.tuple ((((runs (ps.map (iv b))).take i).flatMap fun r => D b r.1 r.2).map pr)), x21, x22, x23, x24, x25], ⟨_, _, rfl⟩, ?_, ?_⟩
  · rintro i d ρ hd ⟨x21, x22, rfl⟩
    obtain ⟨q, hr, rfl, hlt⟩ := get_map hd
    have hm := runs_hi hp q (List.mem_of_getElem? hr)
    rw [show pr q = .tuple [.int q.1, .int q.2] from rfl]
    walk_at "dlg"
    unfold c_law_b1
    walk_at "dl"
    refine prefixes_ok h1 (by omega) hm.1 hm.2 ?_
    unfold prs
    walk_at "dl"
    have e2 : (((runs (ps.map (iv b))).take (i + 1)).flatMap fun r => D b r.1 r.2) = (((runs (ps.map (iv b))).take i).flatMap fun r => D b r.1 r.2) ++ D b q.1 q.2 := by
      rw [List.take_add_one, hr, List.flatMap_append]; simp
    refine ⟨?_, ?_⟩
    · have := J_len hp
      unfold J at this
      have k : ((((runs (ps.map (iv b))).take (i + 1)).flatMap fun r => D b r.1 r.2)).length ≤ ((runs (ps.map (iv b))).flatMap fun r => D b r.1 r.2).length := by
        rw [List.length_flatMap, List.length_flatMap]
        exact List.Sublist.sum_le_sum' _ _ ((List.take_sublist _ _).map _)
      rw [e2, List.length_append] at k
      rw [List.length_map, List.length_map]
      omega
    · exact ⟨_, _, by rw [e2, List.map_append]⟩
  · rintro ρ ⟨x21, x22, rfl⟩
    rw [List.length_map, List.take_length]
    exact h _ _
end
end K22

/-! text L23 -/
set_option Elab.async false
set_option linter.all false
set_option maxRecDepth 100000
set_option maxHeartbeats 1000000
namespace K22
open PySem PySem.Spec PyProof.Rows L2 PySem.SeqAt DL M22
section
variable {sc : Dat} {r : Dr} {kt : Kt} {b lo hi : Nat} {ps : List (Nat × Nat)} {x2 x3 x4 x5 x6 x7 x8 x9 x10 x11 x12 x13 x14 x15 x16 x17 x18 x19 x20 x21 x22 x23 x24 x25 : DL.Slot}
theorem law_23 (h1 : 1 ≤ b) (hb : b ≤ 12) (hn : ps.length ≤ 8) (hp : ∀ p ∈ ps, Pok b p) (h : kt.nx [.val sc, .own 0 (.lst (Dr.ds r)), x2, .val (.int b), .val (.int ((2 ^ b - 1 : Nat) : Int)), x5, x6, x7, x8, x9, x10, x11, x12, x13, x14, x15, x16, .val (prs ps), x18, .val (prs (J b ps)), .val (prs (J b ps)), x21, x22, x23, x24, x25]) : c_law_23 kt [.val sc, .own 0 (.lst (Dr.ds r)), x2, .val (.int b), .val (.int ((2 ^ b - 1 : Nat) : Int)), x5, x6, x7, x8, x9, x10, x11, x12, x13, x14, x15, x16, .val (prs ps), x18, .val (prs (J b ps)), .val (prs (J b ps)), x21, x22, x23, x24, x25] := by
  have h2 := p12 hb
  have jl := J_len hp
  unfold c_law_23
  have hS : ∀ {d e : Dat} {K : OK}, Pl 60 d → d = e → K (.bool true) [] → F_law_same [.val d, .val e] K := same_ok
  generalize F_law_same = GS at hS ⊢
  have hJ : ∀ {b : Nat} {l : List (Nat × Nat)} {K : OK}, 1 ≤ b → b ≤ 20 → (∀ p ∈ l, Pok b p) → l.length < 16777216 → K (prs (J b l)) [] → F_joined_prefixes [.val (.int b), .val (prs l)] K := joined_ok
  generalize F_joined_prefixes = GJ at hJ ⊢
  rw [ifS_or]
  generalize hT : c_ifS (c_not _) _ c_nil _ = T
  walk_at "dl"
  refine hS (prs_len' (by omega)) rfl ?_
  walk_at "dl"
  subst hT
  rw [ifS_, stageB]
  walk_at "dl"
  refine hJ h1 (by omega) (J_ok hp) (by omega) ?_
  rw [J_J]
  unfold stC
  walk_at "dl"
  refine hS (prs_len' (by omega)) rfl ?_
  walk_at "dl"
  exact h
end
end K22

/-! text L24 -/
set_option Elab.async false
set_option linter.all false
set_option maxRecDepth 100000
set_option maxHeartbeats 1000000
namespace K22
open PySem PySem.Spec PyProof.Rows L2 PySem.SeqAt DL M22
section
variable {sc : Dat} {r : Dr} {kt : Kt} {b lo hi : Nat} {ps : List (Nat × Nat)} {x2 x3 x4 x5 x6 x7 x8 x9 x10 x11 x12 x13 x14 x15 x16 x17 x18 x19 x20 x21 x22 x23 x24 x25 : DL.Slot}
theorem law_24 (h1 : 1 ≤ b) (hb : b ≤ 12) (hn : ps.length ≤ 8) (hp : ∀ p ∈ ps, Pok b p) (h : ∀ (r' : Dr), kt.nx [.val sc, .own 0 (.lst (Dr.ds r')), x2, .val (.int b), .val (.int ((2 ^ b - 1 : Nat) : Int)), x5, x6, x7, x8, x9, x10, x11, x12, x13, x14, x15, x16, .val (prs ps), x18, .val (prs (J b ps)), x20, x21, x22, x23, x24, x25]) : c_law_24 kt [.val sc, .own 0 (.lst (Dr.ds r)), x2, .val (.int b), .val (.int ((2 ^ b - 1 : Nat) : Int)), x5, x6, x7, x8, x9, x10, x11, x12, x13, x14, x15, x16, .val (prs ps), x18, .val (prs (J b ps)), x20, x21, x22, x23, x24, x25] := by
  have h2 := p12 hb
  have jl := J_len hp
  unfold c_law_24
  have hS : ∀ {d e : Dat} {K : OK}, Pl 60 d → d = e → K (.bool true) [] → F_law_same [.val d, .val e] K := same_ok
  generalize F_law_same = GS at hS ⊢
  have hJ : ∀ {b : Nat} {l : List (Nat × Nat)} {K : OK}, 1 ≤ b → b ≤ 20 → (∀ p ∈ l, Pok b p) → l.length < 16777216 → K (prs (J b l)) [] → F_joined_prefixes [.val (.int b), .val (prs l)] K := joined_ok
  generalize F_joined_prefixes = GJ at hJ ⊢
  rw [ifS_or]
  generalize hT : c_ifS (c_not _) _ c_nil _ = T
  rw [stageB]
  generalize hC : stC GS _ _ = C
  walk_at "dl"
  refine turned_ok (by omega) fun out r' ho => ?_
  walk_at "dl"
  refine hJ h1 (by omega) (fun p m => hp p (ho.mem_iff.mp m)) (by rw [ho.length_eq]; omega) ?_
  rw [J_perm ho]
  subst hC
  unfold stC
  walk_at "dl"
  refine hS (prs_len' (by omega)) rfl ?_
  walk_at "dl"
  subst hT
  rw [ifS_, stageB]
  unfold prs
  walk_at "dl"
  refine ⟨by rw [List.length_map]; omega, ?_⟩
  rw [← List.map_append]
  refine hJ (l := ps ++ ps) h1 (by omega) (fun p m => hp p ((List.mem_append.mp m).elim id id)) (by rw [List.length_append]; omega) ?_
  rw [J_twice]
  unfold stC prs
  walk_at "dl"
  refine hS (prs_len' (by omega)) rfl ?_
  walk_at "dl"
  exact h _
end
end K22

/-! text L25 -/
set_option Elab.async false
set_option linter.all false
set_option maxRecDepth 100000
set_option maxHeartbeats 1000000
namespace K22
open PySem PySem.Spec PyProof.Rows L2 PySem.SeqAt DL M22
section
variable {sc : Dat} {r : Dr} {kt : Kt} {b lo hi : Nat} {ps : List (Nat × Nat)} {x2 x3 x4 x5 x6 x7 x8 x9 x10 x11 x12 x13 x14 x15 x16 x17 x18 x19 x20 x21 x22 x23 x24 x25 : DL.Slot}
theorem law_25 (h1 : 1 ≤ b) (hb : b ≤ 12) (h : ∀ (x : Nat) (r' : Dr), x < 2 ^ b → kt.nx [.val sc, .own 0 (.lst (Dr.ds r')), x2, .val (.int b), .val (.int ((2 ^ b - 1 : Nat) : Int)), x5, x6, x7, x8, x9, x10, x11, .val (.int x), x13, x14, x15, x16, x17, x18, x19, x20, x21, x22, x23, x24, x25]) : c_law_25 kt [.val sc, .own 0 (.lst (Dr.ds r)), x2, .val (.int b), .val (.int ((2 ^ b - 1 : Nat) : Int)), x5, x6, x7, x8, x9, x10, x11, x12, x13, x14, x15, x16, x17, x18, x19, x20, x21, x22, x23, x24, x25] := by
  have h2 := p12 hb
  have := Nat.two_pow_pos b
  unfold c_law_25
  walk_at "dl"
  refine draw_ok (by omega) (by omega) fun v r' hv => ?_
  walk_at "dl"
  exact h v r' (by omega)
end
end K22

/-! text L26 -/
set_option Elab.async false
set_option linter.all false
set_option maxRecDepth 100000
set_option maxHeartbeats 1000000
namespace K22
open PySem PySem.Spec PyProof.Rows L2 PySem.SeqAt DL M22
section
variable {sc : Dat} {r : Dr} {kt : Kt} {b lo hi : Nat} {ps : List (Nat × Nat)} {x2 x3 x4 x5 x6 x7 x8 x9 x10 x11 x12 x13 x14 x15 x16 x17 x18 x19 x20 x21 x22 x23 x24 x25 : DL.Slot}
theorem law_26 {x : Nat} (h1 : 1 ≤ b) (hb : b ≤ 12) (hn : ps.length ≤ 8) (hp : ∀ p ∈ ps, Pok b p) (h : kt.nx [.val sc, .own 0 (.lst (Dr.ds r)), x2, .val (.int b), .val (.int ((2 ^ b - 1 : Nat) : Int)), x5, x6, x7, x8, x9, .un, x11, .val (.int x), x13, x14, x15, x16, .val (prs ps), x18, .val (prs (J b ps)), x20, x21, x22, x23, .own 0 (.lst ((fits b ps x).map pr)), x25]) : c_law_26 kt [.val sc, .own 0 (.lst (Dr.ds r)), x2, .val (.int b), .val (.int ((2 ^ b - 1 : Nat) : Int)), x5, x6, x7, x8, x9, x10, x11, .val (.int x), x13, x14, x15, x16, .val (prs ps), x18, .val (prs (J b ps)), x20, x21, x22, x23, x24, x25] := by
  unfold c_law_26 prs
  walk_at "dl"
  refine lcK_map ps pr (fun p => if decide (p.1 ≤ x ∧ x ≤ p.1 + 2 ^ (b - p.2) - 1) = true then some (pr p) else none) _ rfl rfl (by omega) ?_ ?_
  · intro p m C E hC hE
    walk_at "dl"
    refine ends_ok (by omega) (hp p m).1 ?_
    rw [show pr (iv b p) = .tuple [.int p.1, .int (p.1 + 2 ^ (b - p.2) - 1 : Nat)] from rfl]
    walk_at "dl"
    by_cases g1 : p.1 ≤ x
    · rw [if_pos (by omega)]
      refine ends_ok (by omega) (hp p m).1 ?_
      rw [show pr (iv b p) = .tuple [.int p.1, .int (p.1 + 2 ^ (b - p.2) - 1 : Nat)] from rfl]
      walk_at "dl"
      by_cases g2 : x ≤ p.1 + 2 ^ (b - p.2) - 1
      · rw [if_pos (by omega)]
        exact hC _ _ (by rw [if_pos (decide_eq_true ⟨g1, g2⟩)]) rfl
      · rw [if_neg (by omega)]
        exact hE _ (by rw [if_neg (fun z => g2 (of_decide_eq_true z).2)]) rfl
    · rw [if_neg (by omega)]
      exact hE _ (by rw [if_neg (fun z => g1 (of_decide_eq_true z).1)]) rfl
  · rw [fm_filter]
    walk_at "dl"
    exact h
end
end K22

/-! text L27 -/
set_option Elab.async false
set_option linter.all false
set_option maxRecDepth 100000
set_option maxHeartbeats 1000000
namespace K22
open PySem PySem.Spec PyProof.Rows L2 PySem.SeqAt DL M22
section
variable {sc : Dat} {r : Dr} {kt : Kt} {b lo hi : Nat} {ps : List (Nat × Nat)} {x2 x3 x4 x5 x6 x7 x8 x9 x10 x11 x12 x13 x14 x15 x16 x17 x18 x19 x20 x21 x22 x23 x24 x25 : DL.Slot}
theorem law_27 {x : Nat} (h1 : 1 ≤ b) (hb : b ≤ 12) (hn : ps.length ≤ 8) (hp : ∀ p ∈ ps, Pok b p) (hx : x < 2 ^ b) (h0 : fits b ps x = [] → kt.nx [.val sc, .own 0 (.lst (Dr.ds r)), x2, .val (.int b), .val (.int ((2 ^ b - 1 : Nat) : Int)), x5, x6, x7, x8, x9, .un, x11, .val (.int x), .val .none, x14, x15, x16, .val (prs ps), x18, .val (prs (J b ps)), x20, x21, x22, x23, .own 0 (.lst ((fits b ps x).map pr)), x25]) (h : ∀ p ∈ fits b ps x, (∀ q ∈ fits b ps x, q.2 ≤ p.2) → kt.nx [.val sc, .own 0 (.lst (Dr.ds r)), x2, .val (.int b), .val (.int ((2 ^ b - 1 : Nat) : Int)), x5, x6, x7, x8, x9, .un, x11, .val (.int x), .val (pr p), x14, x15, x16, .val (prs ps), x18, .val (prs (J b ps)), x20, x21, x22, x23, .own 0 (.lst ((fits b ps x).map pr)), x25]) : c_law_27 kt [.val sc, .own 0 (.lst (Dr.ds r)), x2, .val (.int b), .val (.int ((2 ^ b - 1 : Nat) : Int)), x5, x6, x7, x8, x9, .un, x11, .val (.int x), x13, x14, x15, x16, .val (prs ps), x18, .val (prs (J b ps)), x20, x21, x22, x23, .own 0 (.lst ((fits b ps x).map pr)), x25] := by
  unfold c_law_27
  walk_at "dl"
  refine longest_ok h1 (by omega) hx hp (by omega) (fun e => ?_) fun p m k => ?_
  · walk_at "dl"
    exact h0 e
  · walk_at "dl"
    exact h p m k
end
end K22

/-! text L28 -/
set_option Elab.async false
set_option linter.all false
set_option maxRecDepth 100000
set_option maxHeartbeats 1000000
namespace K22
open PySem PySem.Spec PyProof.Rows L2 PySem.SeqAt DL M22
section
variable {sc : Dat} {r : Dr} {kt : Kt} {b lo hi : Nat} {ps : List (Nat × Nat)} {x2 x3 x4 x5 x6 x7 x8 x9 x10 x11 x12 x13 x14 x15 x16 x17 x18 x19 x20 x21 x22 x23 x24 x25 : DL.Slot}
theorem law_28n {x : Nat} (e : fits b ps x = []) (h : kt.nx [.val sc, .own 0 (.lst (Dr.ds r)), x2, .val (.int b), .val (.int ((2 ^ b - 1 : Nat) : Int)), x5, x6, x7, x8, x9, .un, x11, .val (.int x), .val .none, x14, x15, x16, .val (prs ps), x18, .val (prs (J b ps)), x20, x21, x22, x23, .own 0 (.lst ((fits b ps x).map pr)), x25]) : c_law_28 kt [.val sc, .own 0 (.lst (Dr.ds r)), x2, .val (.int b), .val (.int ((2 ^ b - 1 : Nat) : Int)), x5, x6, x7, x8, x9, .un, x11, .val (.int x), .val .none, x14, x15, x16, .val (prs ps), x18, .val (prs (J b ps)), x20, x21, x22, x23, .own 0 (.lst ((fits b ps x).map pr)), x25] := by
  rw [e] at *
  unfold c_law_28
  walk_at "dl"
  rw [decide_eq_true (show ((0 : Nat) : Int) = 0 from rfl)]
  walk_at "dl"
  simp only [decide_true]
  walk_at "dl"
  exact h
theorem law_28p {x : Nat} {p : Nat × Nat} (hn : ps.length ≤ 8) (m : p ∈ fits b ps x) (k : ∀ q ∈ fits b ps x, q.2 ≤ p.2) (h : ∀ x24, kt.nx [.val sc, .own 0 (.lst (Dr.ds r)), x2, .val (.int b), .val (.int ((2 ^ b - 1 : Nat) : Int)), x5, x6, x7, x8, x9, .un, x11, .val (.int x), .val (pr p), x14, x15, x16, .val (prs ps), x18, .val (prs (J b ps)), x20, x21, x22, x23, x24, x25]) : c_law_28 kt [.val sc, .own 0 (.lst (Dr.ds r)), x2, .val (.int b), .val (.int ((2 ^ b - 1 : Nat) : Int)), x5, x6, x7, x8, x9, .un, x11, .val (.int x), .val (pr p), x14, x15, x16, .val (prs ps), x18, .val (prs (J b ps)), x20, x21, x22, x23, .own 0 (.lst ((fits b ps x).map pr)), x25] := by
  have hl : (fits b ps x).length ≤ 8 := Nat.le_trans (List.length_filter_le _ _) hn
  generalize fits b ps x = f at *
  have hpos : 0 < f.length := List.length_pos_of_mem m
  have ha : (f.map pr).any (fun z => PyData.eqv z (.tuple [.int p.1, .int p.2])) = true := List.any_eq_true.mpr ⟨pr p, List.mem_map.mpr ⟨p, m, rfl⟩, eqv_refl _ (canLay_of_shaped (shp_p p))⟩
  have hs := shp_p p
  have ep : pr p = .tuple [.int p.1, .int p.2] := rfl
  rw [ep]
  unfold c_law_28
  walk_at "dl"
  rw [List.length_map, decide_eq_false (show ¬ ((f.length : Nat) : Int) = 0 by omega)]
  walk_at "dl"
  simp only [decide_true]
  walk_at "dl"
  refine ⟨⟨hs, shp_l _⟩, ?_⟩
  rw [ha]
  walk_at "dl"
  refine lcK_map f pr (fun p => some (.int p.2)) _ rfl rfl (by omega) ?_ ?_
  · intro q mq C E hC _
    rw [show pr q = .tuple [.int q.1, .int q.2] from rfl]
    walk_at "dl"
    exact hC _ _ rfl rfl
  · rw [fm_some]
    walk_at "dl"
    refine ⟨f.map fun q => (q.2 : Int), by rw [List.map_map]; rfl, by rw [List.length_map]; exact hpos, fun mm hm hy => ?_⟩
    obtain ⟨q, mq, rfl⟩ := List.mem_map.mp hm
    have h1 := k q mq
    have h2 := hy (p.2 : Int) (List.mem_map.mpr ⟨p, m, rfl⟩)
    walk_at "dl"
    rw [decide_eq_true (show (p.2 : Int) = (q.2 : Int) by omega)]
    walk_at "dl"
    exact h _
end
end K22

/-! text L29 -/
set_option Elab.async false
set_option linter.all false
set_option maxRecDepth 100000
set_option maxHeartbeats 1000000
namespace K22
open PySem PySem.Spec PyProof.Rows L2 PySem.SeqAt DL M22
theorem fits_mem {b x : Nat} {l : List (Nat × Nat)} {p : Nat × Nat} : p ∈ fits b l x ↔ p ∈ l ∧ p.1 ≤ x ∧ x < p.1 + 2 ^ (b - p.2) := by
  unfold fits
  rw [List.mem_filter, decide_eq_true_eq]
  have := Nat.two_pow_pos (b - p.2)
  constructor <;> rintro ⟨a, c, d⟩ <;> exact ⟨a, c, by omega⟩
theorem fits_nil {b x : Nat} {l : List (Nat × Nat)} : fits b l x = [] ↔ ¬ Pt b l x := by
  rw [List.eq_nil_iff_forall_not_mem]
  constructor
  · rintro h ⟨p, m, u⟩
    exact h p (fits_mem.mpr ⟨m, u⟩)
  · intro h p m
    exact h ⟨p, fits_mem.mp m⟩
theorem fits_one {b x : Nat} {l : List (Nat × Nat)} {p q : Nat × Nat} (hp : Pok b p) (hq : Pok b q) (m : p ∈ fits b l x) (n : q ∈ fits b l x) (e : p.2 = q.2) : p = q := by
  have h1 := (fits_mem.mp m).2
  have h2 := (fits_mem.mp n).2
  have d1 := hp.2.2
  have d2 := hq.2.2
  rw [← e] at h2 d2
  have hz := Nat.two_pow_pos (b - p.2)
  have e1 : p.1 = q.1 := by
    rcases Nat.lt_trichotomy p.1 q.1 with z | z | z
    · have := dvd_step hz d1 d2 z; omega
    · exact z
    · have := dvd_step hz d2 d1 z; omega
  exact Prod.ext e1 e
section
variable {sc : Dat} {r : Dr} {kt : Kt} {b lo hi : Nat} {ps : List (Nat × Nat)} {x2 x3 x4 x5 x6 x7 x8 x9 x10 x11 x12 x13 x14 x15 x16 x17 x18 x19 x20 x21 x22 x23 x24 x25 : DL.Slot}
theorem law_29n {x : Nat} (h1 : 1 ≤ b) (hb : b ≤ 12) (hn : ps.length ≤ 8) (hp : ∀ p ∈ ps, Pok b p) (hx : x < 2 ^ b) (e : fits b ps x = []) (h : kt.nx [.val sc, .own 0 (.lst (Dr.ds r)), x2, .val (.int b), .val (.int ((2 ^ b - 1 : Nat) : Int)), x5, x6, x7, x8, x9, .un, x11, .val (.int x), .val .none, x14, x15, x16, .val (prs ps), x18, .val (prs (J b ps)), x20, x21, x22, x23, x24, x25]) : c_law_29 kt [.val sc, .own 0 (.lst (Dr.ds r)), x2, .val (.int b), .val (.int ((2 ^ b - 1 : Nat) : Int)), x5, x6, x7, x8, x9, .un, x11, .val (.int x), .val .none, x14, x15, x16, .val (prs ps), x18, .val (prs (J b ps)), x20, x21, x22, x23, x24, x25] := by
  have h2 := p12 hb
  have jl := J_len hp
  unfold c_law_29
  have hS : ∀ {d e : Dat} {K : OK}, Pl 60 d → d = e → K (.bool true) [] → F_law_same [.val d, .val e] K := same_ok
  generalize F_law_same = GS at hS ⊢
  have hL : ∀ {b x : Nat} {l : List (Nat × Nat)} {K : OK}, 1 ≤ b → b ≤ 20 → x < 2 ^ b → (∀ p ∈ l, Pok b p) → l.length ≤ 16777216 → (fits b l x = [] → K .none []) → (∀ p ∈ fits b l x, (∀ q ∈ fits b l x, q.2 ≤ p.2) → K (pr p) []) → F_longest_fit [.val (.int b), .val (prs l), .val (.int x)] K := longest_ok
  generalize F_longest_fit = GL at hL ⊢
  rw [ifS_or]
  generalize hT : c_ifS (c_val _) _ c_nil _ = T
  rw [stageB]
  generalize hC : stC GS _ _ = C
  have er : PyData.tuple (ps.map pr).reverse = prs ps.reverse := by unfold prs; rw [List.map_reverse]
  have fr : fits b ps.reverse x = (fits b ps x).reverse := by unfold fits; rw [List.filter_reverse]
  have fj : fits b (J b ps) x = [] ↔ fits b ps x = [] := by rw [fits_nil, fits_nil, J_pts]
  have e' : fits b ps.reverse x = [] := by rw [fr, e]; rfl
  unfold prs
  walk_at "dl"
  rw [er]
  refine hL h1 (by omega) hx (fun p m => hp p (List.mem_reverse.mp m)) (by rw [List.length_reverse]; omega) (fun _ => ?_) (fun p m _ => by rw [e'] at m; simp at m)
  subst hC
  unfold stC
  walk_at "dl"
  refine hS True.intro rfl ?_
  walk_at "dl"
  subst hT
  rw [ifS_]
  walk_at "dl"
  rw [show PyData.tuple (List.map pr (J b ps)) = prs (J b ps) from rfl]
  refine hL h1 (by omega) hx (J_ok hp) (by omega) (fun _ => ?_) (fun p m _ => by rw [fj.mpr e] at m; simp at m)
  walk_at "dl"
  simp only [decide_true]
  walk_at "dl"
  exact h
theorem law_29p {x : Nat} {p : Nat × Nat} (h1 : 1 ≤ b) (hb : b ≤ 12) (hn : ps.length ≤ 8) (hp : ∀ p ∈ ps, Pok b p) (hx : x < 2 ^ b) (m : p ∈ fits b ps x) (k : ∀ q ∈ fits b ps x, q.2 ≤ p.2) (h : kt.nx [.val sc, .own 0 (.lst (Dr.ds r)), x2, .val (.int b), .val (.int ((2 ^ b - 1 : Nat) : Int)), x5, x6, x7, x8, x9, .un, x11, .val (.int x), .val (pr p), x14, x15, x16, .val (prs ps), x18, .val (prs (J b ps)), x20, x21, x22, x23, x24, x25]) : c_law_29 kt [.val sc, .own 0 (.lst (Dr.ds r)), x2, .val (.int b), .val (.int ((2 ^ b - 1 : Nat) : Int)), x5, x6, x7, x8, x9, .un, x11, .val (.int x), .val (pr p), x14, x15, x16, .val (prs ps), x18, .val (prs (J b ps)), x20, x21, x22, x23, x24, x25] := by
  have h2 := p12 hb
  have jl := J_len hp
  unfold c_law_29
  have hS : ∀ {d e : Dat} {K : OK}, Pl 60 d → d = e → K (.bool true) [] → F_law_same [.val d, .val e] K := same_ok
  generalize F_law_same = GS at hS ⊢
  have hL : ∀ {b x : Nat} {l : List (Nat × Nat)} {K : OK}, 1 ≤ b → b ≤ 20 → x < 2 ^ b → (∀ p ∈ l, Pok b p) → l.length ≤ 16777216 → (fits b l x = [] → K .none []) → (∀ p ∈ fits b l x, (∀ q ∈ fits b l x, q.2 ≤ p.2) → K (pr p) []) → F_longest_fit [.val (.int b), .val (prs l), .val (.int x)] K := longest_ok
  generalize F_longest_fit = GL at hL ⊢
  rw [ifS_or]
  generalize hT : c_ifS (c_val _) _ c_nil _ = T
  rw [stageB]
  generalize hC : stC GS _ _ = C
  have er : PyData.tuple (ps.map pr).reverse = prs ps.reverse := by unfold prs; rw [List.map_reverse]
  have fr : fits b ps.reverse x = (fits b ps x).reverse := by unfold fits; rw [List.filter_reverse]
  have fj : fits b (J b ps) x = [] ↔ fits b ps x = [] := by rw [fits_nil, fits_nil, J_pts]
  have ne : fits b ps x ≠ [] := List.ne_nil_of_mem m
  have nr : fits b ps.reverse x ≠ [] := fun z => ne (by rw [fr] at z; exact List.reverse_eq_nil_iff.mp z)
  have ni : ∀ q : Nat × Nat, nIsN (pr q) = false := fun q => rfl
  unfold prs
  walk_at "dl"
  rw [er]
  refine hL h1 (by omega) hx (fun p m => hp p (List.mem_reverse.mp m)) (by rw [List.length_reverse]; omega) (fun z => absurd z nr) fun q mq kq => ?_
  rw [fr] at mq kq
  have mq := List.mem_reverse.mp mq
  have eq : q = p := fits_one (hp q (fits_mem.mp mq).1) (hp p (fits_mem.mp m).1) mq m (Nat.le_antisymm (k q mq) (kq p (List.mem_reverse.mpr m)))
  subst eq
  subst hC
  unfold stC
  walk_at "dl"
  refine hS ⟨by simp, fun y hy => by simp at hy; rcases hy with rfl | rfl <;> exact True.intro⟩ rfl ?_
  walk_at "dl"
  subst hT
  rw [ifS_]
  walk_at "dl"
  rw [show PyData.tuple (List.map pr (J b ps)) = prs (J b ps) from rfl]
  refine hL h1 (by omega) hx (J_ok hp) (by omega) (fun z => absurd (fj.mp z) ne) fun p' _ _ => ?_
  walk_at "dl"
  rw [ni, ni]
  simp only [decide_true]
  walk_at "dl"
  exact h
end
end K22

/-! text L31 -/
set_option Elab.async false
set_option linter.all false
set_option maxRecDepth 100000
set_option maxHeartbeats 1000000
namespace K22
open PySem PySem.Spec PyProof.Rows L2 PySem.SeqAt DL M22
section
variable {sc : Dat} {r : Dr} {kt : Kt} {b lo hi : Nat} {ps : List (Nat × Nat)} {x2 x3 x4 x5 x6 x7 x8 x9 x10 x11 x12 x13 x14 x15 x16 x17 x18 x19 x20 x21 x22 x23 x24 x25 : DL.Slot}
theorem law_31 {p : Nat × Nat} (h1 : 1 ≤ b) (hb : b ≤ 12) (hq : Pok b p) (h : kt.nx [.val sc, .own 0 (.lst (Dr.ds r)), x2, .val (.int b), .val (.int ((2 ^ b - 1 : Nat) : Int)), x5, x6, x7, x8, x9, .val (pr p), x11, x12, x13, x14, x15, x16, x17, x18, x19, x20, x21, x22, x23, x24, .val (.str (signs b p))]) : c_law_31 kt [.val sc, .own 0 (.lst (Dr.ds r)), x2, .val (.int b), .val (.int ((2 ^ b - 1 : Nat) : Int)), x5, x6, x7, x8, x9, .val (pr p), x11, x12, x13, x14, x15, x16, x17, x18, x19, x20, x21, x22, x23, x24, x25] := by
  unfold c_law_31
  walk_at "dl"
  refine signs_ok h1 (by omega) hq ?_
  walk_at "dl"
  exact h
end
end K22

/-! text L32 -/
set_option Elab.async false
set_option linter.all false
set_option maxRecDepth 100000
set_option maxHeartbeats 1000000
namespace K22
open PySem PySem.Spec PyProof.Rows L2 PySem.SeqAt DL M22
section
variable {sc : Dat} {r : Dr} {kt : Kt} {b lo hi : Nat} {ps : List (Nat × Nat)} {x2 x3 x4 x5 x6 x7 x8 x9 x10 x11 x12 x13 x14 x15 x16 x17 x18 x19 x20 x21 x22 x23 x24 x25 : DL.Slot}
theorem law_32 {p : Nat × Nat} (h1 : 1 ≤ b) (hb : b ≤ 12) (hq : Pok b p) (h : kt.nx [.val sc, .own 0 (.lst (Dr.ds r)), x2, .val (.int b), .val (.int ((2 ^ b - 1 : Nat) : Int)), x5, x6, x7, x8, x9, .val (pr p), x11, x12, x13, x14, x15, x16, x17, .un, x19, .val (.str (signs b p)), x21, x22, x23, x24, .val (.str (signs b p))]) : c_law_32 kt [.val sc, .own 0 (.lst (Dr.ds r)), x2, .val (.int b), .val (.int ((2 ^ b - 1 : Nat) : Int)), x5, x6, x7, x8, x9, .val (pr p), x11, x12, x13, x14, x15, x16, x17, x18, x19, x20, x21, x22, x23, x24, .val (.str (signs b p))] := by
  obtain ⟨v, t⟩ := p
  obtain ⟨ht, hv, hd⟩ := hq
  have ht : t ≤ b := ht
  have h2 := p12 hb
  generalize hsg : signs b (v, t) = sg at h ⊢
  unfold c_law_32 pr
  walk_at "dl"
  refine ⟨by omega, ?_⟩
  refine lcK_map (List.range t) (fun (k : Nat) => .int (k : Int)) (fun k => some (.str (bitS v (b - (k + 1))))) _ ?_ rfl (by rw [List.length_range]; omega) ?_ ?_
  · unfold rng; rw [Int.toNat_natCast]; exact List.map_congr_left fun i _ => by rw [Int.zero_add]
  · intro k m C E hC _
    have hk := List.mem_range.mp m
    walk_at "dl"
    rw [show ((b : Int) - 1 - (k : Int)) = ((b - (k + 1) : Nat) : Int) by omega]
    have hp := Nat.two_pow_pos (b - (k + 1))
    have hs : 2 ^ (b - (k + 1)) ≤ 2 ^ b := Nat.pow_le_pow_right (by omega) (by omega)
    rw [show (1 : Int) * 2 ^ (Int.toNat ((b - (k + 1) : Nat) : Int)) = ((2 ^ (b - (k + 1)) : Nat) : Int) by rw [Int.one_mul, Int.toNat_natCast]; simp]
    refine ⟨⟨by omega, by omega, by decide⟩, ⟨Int.natCast_pos.mpr hp, by omega⟩, by decide, ?_⟩
    rw [div_int, mod_int]
    exact gStr_bit (P := fun z => rdK [] z fun d => C d _) (hC _ _ rfl rfl)
  · rw [fm_some]
    walk_at "dl"
    refine join_bits (by omega) ht ?_
    walk_at "dl"
    rw [show ((b : Int) - (t : Int)) = ((b - t : Nat) : Int) by omega]
    have := signs_tail (b := b) (t := t) (v := v) (P := fun z => asgK 20 z [.val sc, .own 0 (.lst (Dr.ds r)), x2, .val (.int b), .val (.int ((2 ^ b - 1 : Nat) : Int)), x5, x6, x7, x8, x9, .val (.tuple [.int v, .int t]), x11, x12, x13, x14, x15, x16, x17, .un, x19, x20, x21, x22, x23, x24, .val (.str sg)] kt.nx) (by omega) ht (by rw [hsg]; walk_at "dl"; exact h)
    try simp -implicitDefEqProofs only [DL.c_seq, DL.c_nil, DL.c_ret, DL.c_retN, DL.c_brk, DL.c_cont, DL.c_ifS, DL.c_do, DL.c_set, DL.c_unp, DL.c_par, DL.c_aug, DL.c_app, DL.c_ext, DL.c_seti, DL.c_popA, DL.c_pop0, DL.c_lit, DL.c_bin, DL.c_cmp, DL.bF, DL.c_val, DL.c_and, DL.c_or, DL.c_not, DL.c_andV, DL.c_orV, DL.c_notV, DL.c_if, DL.a_nil, DL.a_cons, DL.c_tup, DL.c_lst, DL.c_fn, DL.c_idx, DL.c_slice, DL.o_no, DL.o_some, DL.c_call, DL.c_callR, DL.c_callN, DL.c_isi, DL.c_meth, DL.c_chain, DL.q_one, DL.q_cons, DL.c_neg, DL.fNeg, DL.c_rev, DL.pargsK, DL.fillK, DL.refsOf, DL.backK, DL.endNew, DL.noLoc, DL.outsK, DL.startE, DL.refPos, DL.w_seq, DL.w_rng1, DL.w_rng2, DL.w_zip, DL.g_name, DL.g_tup, DL.g_cons, DL.g_nil, DL.wipeE, DL.bAdd_i, DL.bAdd_s, DL.bAdd_t, DL.bAdd_l, DL.bSub_i, DL.bMul_i, DL.bMul_s, DL.bMul_l, DL.bDiv_i, DL.bMod_i, DL.bShl_i, DL.bPow_i, DL.bXor_i, DL.bEq_i, DL.bEq_s, DL.bEq_b, DL.bEq_n, DL.bEq_t, DL.bEq_l, DL.bNe_, DL.bIs_b, DL.bIs_n, DL.nIsN_n, DL.nIsN_i, DL.nIsN_b, DL.nIsN_s, DL.nIsN_l, DL.nIsN_t, DL.bIsNot_, DL.bLt_i, DL.bLt_s, DL.bLt_t, DL.bLe_i, DL.bGt_i, DL.bGe_i, DL.bIn_t, DL.bIn_l, DL.bNotIn_, DL.fIdx_l, DL.fIdx_t, DL.fSl_l, DL.fSl_t, DL.gLen_l, DL.gLen_t, DL.gLen_s, DL.gInt_i, DL.gInt_b, DL.gStr_i, DL.gList_l, DL.gList_t, DL.gList_f, DL.gTuple_l, DL.gTuple_t, DL.gMax_2, DL.gMin_2, DL.tyD_n, DL.tyD_b, DL.tyD_i, DL.tyD_s, DL.tyD_l, DL.tyD_t, DL.bIAdd_i, DL.bIAdd_s, DL.bIMul_i, DL.fRev_t, DL.slR_v, DL.slR_o, DL.rdK_d, DL.rdK_n, DL.rdK_l, DL.slM_v, DL.slM_o, DL.mvK_d, DL.mvK_n, DL.mvK_l, DL.rdsK_0, DL.rdsK_1, DL.mvsK_0, DL.mvsK_1, DL.asgK_d, DL.asgK_n, DL.asgK_l, DL.slV_v, DL.slV_o, DL.c_var_, DL.asB_b, DL.asI_i, DL.asInt_i, DL.asNew_l, DL.asList_l, DL.asSeq_l, DL.asSeq_t, DL.asZip_l, DL.asZip_t, DL.slO_o, DL.ownK_, List.getElem?_cons_zero, List.getElem?_cons_succ, List.set_cons_zero, List.set_cons_succ, List.getElem?_nil, List.map_cons, List.map_nil, List.length_cons, List.length_nil, List.cons_append, List.nil_append, List.append_nil, if_true, if_false, ite_true, ite_false, reduceIte, Bool.false_eq_true, decide_eq_true_eq, Bool.not_true, Bool.not_false, true_and, and_true, not_true_eq_false, not_false_eq_true, Nat.reduceAdd, Nat.reduceSub, Nat.reduceLeDiff, DL.nd_1, DL.c_lc_, DL.b_yes_, DL.ix_41, DL.ix_42, DL.ix_43, DL.at_0, DL.at_1, DL.at_2, DL.at_3, Option.some.injEq, exists_eq_left', DL.kit_NoneType_int, DL.kit_NoneType_bool, DL.kit_NoneType_str, DL.kit_NoneType_tuple, DL.kit_NoneType_list, DL.kit_bool_int, DL.kit_bool_bool, DL.kit_bool_str, DL.kit_bool_tuple, DL.kit_bool_list, DL.kit_int_int, DL.kit_int_bool, DL.kit_int_str, DL.kit_int_tuple, DL.kit_int_list, DL.kit_str_int, DL.kit_str_bool, DL.kit_str_str, DL.kit_str_tuple, DL.kit_str_list, DL.kit_list_int, DL.kit_list_bool, DL.kit_list_str, DL.kit_list_tuple, DL.kit_list_list, DL.kit_tuple_int, DL.kit_tuple_bool, DL.kit_tuple_str, DL.kit_tuple_tuple, DL.kit_tuple_list, Int.reduceNeg, Int.reduceAdd, Int.reduceSub] at this
    exact this
end
end K22

/-! text L33 -/
set_option Elab.async false
set_option linter.all false
set_option maxRecDepth 100000
set_option maxHeartbeats 1000000
namespace K22
open PySem PySem.Spec PyProof.Rows L2 PySem.SeqAt DL M22
section
variable {sc : Dat} {r : Dr} {kt : Kt} {b lo hi : Nat} {ps : List (Nat × Nat)} {x2 x3 x4 x5 x6 x7 x8 x9 x10 x11 x12 x13 x14 x15 x16 x17 x18 x19 x20 x21 x22 x23 x24 x25 : DL.Slot}
theorem law_33 {p : Nat × Nat} (h1 : 1 ≤ b) (hb : b ≤ 12) (hq : Pok b p) (h : kt.nx [.val sc, .own 0 (.lst (Dr.ds r)), x2, .val (.int b), .val (.int ((2 ^ b - 1 : Nat) : Int)), x5, x6, x7, x8, x9, .val (pr p), x11, x12, x13, x14, x15, x16, x17, .un, x19, .val (.str (signs b p)), x21, x22, x23, x24, .val (.str (signs b p))]) : c_law_33 kt [.val sc, .own 0 (.lst (Dr.ds r)), x2, .val (.int b), .val (.int ((2 ^ b - 1 : Nat) : Int)), x5, x6, x7, x8, x9, .val (pr p), x11, x12, x13, x14, x15, x16, x17, .un, x19, .val (.str (signs b p)), x21, x22, x23, x24, .val (.str (signs b p))] := by
  unfold c_law_33
  have hS : ∀ {d e : Dat} {K : OK}, Pl 60 d → d = e → K (.bool true) [] → F_law_same [.val d, .val e] K := same_ok
  generalize F_law_same = GS at hS ⊢
  rw [ifS_or]
  generalize hT : c_ifS (c_not _) _ c_nil _ = T
  walk_at "dl"
  simp only [decide_true]
  walk_at "dl"
  subst hT
  rw [ifS_, stageB]
  walk_at "dl"
  refine interval_ok' h1 (by omega) hq ?_
  unfold stC
  walk_at "dl"
  refine ends_ok (by omega) hq.1 ?_
  walk_at "dl"
  refine hS ⟨by simp, fun y hy => by simp at hy; rcases hy with rfl | rfl <;> exact True.intro⟩ rfl ?_
  walk_at "dl"
  exact h
end
end K22

/-! text LW -/
set_option Elab.async false
set_option linter.all false
set_option maxRecDepth 100000
set_option maxHeartbeats 1000000
namespace K22
open PySem PySem.Spec PyProof.Rows L2 PySem.SeqAt DL M22
section
variable {sc : Dat} {r : Dr} {kt : Kt} {b lo hi : Nat} {ps : List (Nat × Nat)} {x2 x3 x4 x5 x6 x7 x8 x9 x10 x11 x12 x13 x14 x15 x16 x17 x18 x19 x20 x21 x22 x23 x24 x25 : DL.Slot}
theorem law_30 (h1 : 1 ≤ b) (hb : b ≤ 12) (hn : ps.length ≤ 8) (hp : ∀ p ∈ ps, Pok b p) (h : ∀ (r' : Dr) x10 x12 x13 x23 x24, kt.nx [.val sc, .own 0 (.lst (Dr.ds r')), x2, .val (.int b), .val (.int ((2 ^ b - 1 : Nat) : Int)), x5, x6, x7, x8, x9, x10, x11, x12, x13, x14, x15, x16, .val (prs ps), x18, .val (prs (J b ps)), x20, x21, x22, x23, x24, x25]) : c_law_30 kt [.val sc, .own 0 (.lst (Dr.ds r)), x2, .val (.int b), .val (.int ((2 ^ b - 1 : Nat) : Int)), x5, x6, x7, x8, x9, x10, x11, x12, x13, x14, x15, x16, .val (prs ps), x18, .val (prs (J b ps)), x20, x21, x22, x23, x24, x25] := by
  unfold c_law_30 c_for
  walk_at "dl"
  try refine ⟨by decide, ?_⟩
  refine ⟨fun i ρ => ∃ (r : Dr) (x10 x12 x13 x23 x24 : DL.Slot), ρ = [.val sc, .own 0 (.lst (Dr.ds r)), x2, .val (.int b), .val (.int ((2 ^ b - 1 : Nat) : Int)), x5, x6, x7, x8, x9, x10, x11, x12, x13, x14, x15, x16, .val (prs ps), x18, .val (prs (J b ps)), x20, x21, x22, x23, x24, x25], ⟨r, _, _, _, _, _, rfl⟩, ?_, ?_⟩
  · rintro i d ρ hd ⟨r, x10, x12, x13, x23, x24, rfl⟩
    walk_at "dlg"
    try simp only [c_seq]
    refine law_25 h1 hb fun x r' hx => ?_
    refine law_26 h1 hb hn hp ?_
    refine law_27 h1 hb hn hp hx (fun e => ?_) fun p m k => ?_
    · refine law_28n e ?_
      exact law_29n h1 hb hn hp hx e ⟨r', _, _, _, _, _, rfl⟩
    · refine law_28p hn m k fun x24 => ?_
      exact law_29p h1 hb hn hp hx m k ⟨r', _, _, _, _, _, rfl⟩
  · rintro ρ ⟨r, x10, x12, x13, x23, x24, rfl⟩
    exact h _ _ _ _ _ _

theorem law_34 (h1 : 1 ≤ b) (hb : b ≤ 12) (hn : ps.length ≤ 8) (hp : ∀ p ∈ ps, Pok b p) (h : ∀ x10 x18 x20 x25, kt.nx [.val sc, .own 0 (.lst (Dr.ds r)), x2, .val (.int b), .val (.int ((2 ^ b - 1 : Nat) : Int)), x5, x6, x7, x8, x9, x10, x11, x12, x13, x14, x15, x16, .val (prs ps), x18, x19, x20, x21, x22, x23, x24, x25]) : c_law_34 kt [.val sc, .own 0 (.lst (Dr.ds r)), x2, .val (.int b), .val (.int ((2 ^ b - 1 : Nat) : Int)), x5, x6, x7, x8, x9, x10, x11, x12, x13, x14, x15, x16, .val (prs ps), x18, x19, x20, x21, x22, x23, x24, x25] := by
  unfold c_law_34 c_for prs
  walk_at "dl"
  refine ⟨fun i ρ => ∃ (x10 x18 x20 x25 : DL.Slot), ρ = [.val sc, .own 0 (.lst (Dr.ds r)), x2, .val (.int b), .val (.int ((2 ^ b - 1 : Nat) : Int)), x5, x6, x7, x8, x9, x10, x11, x12, x13, x14, x15, x16, .val (.tuple (ps.map pr)), x18, x19, x20, x21, x22, x23, x24, x25], ⟨_, _, _, _, rfl⟩, ?_, ?_⟩
  · rintro i d ρ hd ⟨x10, x18, x20, x25, rfl⟩
    obtain ⟨p, hp', rfl, hlt⟩ := get_map hd
    have hq := hp p (List.mem_of_getElem? hp')
    walk_at "dlg"
    try simp only [c_seq]
    refine law_31 h1 hb hq ?_
    refine law_32 h1 hb hq ?_
    exact law_33 h1 hb hq ⟨_, _, _, _, rfl⟩
  · rintro ρ ⟨x10, x18, x20, x25, rfl⟩
    exact h _ _ _ _

theorem law_35 (h : ∀ (r' : Dr) x2 x3 x4 x5 x6 x7 x8 x9 x10 x11 x12 x13 x14 x15 x16 x17 x18 x19 x20 x21 x22 x23 x24 x25, kt.nx [.val sc, .own 0 (.lst (Dr.ds r')), x2, x3, x4, x5, x6, x7, x8, x9, x10, x11, x12, x13, x14, x15, x16, x17, x18, x19, x20, x21, x22, x23, x24, x25]) : c_law_35 kt [.val sc, .own 0 (.lst (Dr.ds r)), x2, x3, x4, x5, x6, x7, x8, x9, x10, x11, x12, x13, x14, x15, x16, x17, x18, x19, x20, x21, x22, x23, x24, x25] := by
  unfold c_law_35 c_for
  walk_at "dl"
  try refine ⟨by decide, ?_⟩
  refine ⟨fun i ρ => ∃ (r : Dr) (x2 x3 x4 x5 x6 x7 x8 x9 x10 x11 x12 x13 x14 x15 x16 x17 x18 x19 x20 x21 x22 x23 x24 x25 : DL.Slot), ρ = [.val sc, .own 0 (.lst (Dr.ds r)), x2, x3, x4, x5, x6, x7, x8, x9, x10, x11, x12, x13, x14, x15, x16, x17, x18, x19, x20, x21, x22, x23, x24, x25], ⟨r, _, _, _, _, _, _, _, _, _, _, _, _, _, _, _, _, _, _, _, _, _, _, _, _, rfl⟩, ?_, ?_⟩
  · rintro i d ρ hd ⟨r, x2, x3, x4, x5, x6, x7, x8, x9, x10, x11, x12, x13, x14, x15, x16, x17, x18, x19, x20, x21, x22, x23, x24, x25, rfl⟩
    walk_at "dlg"
    try simp only [c_seq]
    refine law_2 fun b r1 h1 hb => ?_
    refine law_3 h1 hb ?_
    refine law_4 h1 hb fun lo r2 hlo => ?_
    refine law_5 h1 hb hlo fun hi r3 hl hh => ?_
    refine law_6 h1 hb hl hh ?_
    refine law_7 h1 hb hl hh ?_
    refine law_8 h1 hb hl hh ?_
    refine law_9 h1 hb hl hh ?_
    refine law_10 h1 hb hl hh ?_
    refine law_13 h1 hb hl hh fun _ _ _ => ?_
    refine law_17 h1 hb hl hh fun r4 _ _ => ?_
    refine law_18 h1 hb hl hh ?_
    refine law_19 h1 hb hl hh fun _ _ => ?_
    refine law_20 h1 hb fun ps r5 hn hp => ?_
    refine law_21 h1 hb hn hp ?_
    refine law_22 h1 hb hn hp fun _ _ => ?_
    refine law_23 h1 hb hn hp ?_
    refine law_24 h1 hb hn hp fun r6 => ?_
    refine law_30 h1 hb hn hp fun r7 _ _ _ _ _ => ?_
    exact law_34 h1 hb hn hp fun _ _ _ _ => ⟨r7, _, _, _, _, _, _, _, _, _, _, _, _, _, _, _, _, _, _, _, _, _, _, _, _, rfl⟩
  · rintro ρ ⟨r, x2, x3, x4, x5, x6, x7, x8, x9, x10, x11, x12, x13, x14, x15, x16, x17, x18, x19, x20, x21, x22, x23, x24, x25, rfl⟩
    exact h _ _ _ _ _ _ _ _ _ _ _ _ _ _ _ _ _ _ _ _ _ _ _ _ _

theorem draws_ok {cells : List Int} {K : OK} (h : K (.list (Dr.ds ⟨cells, 0, 0, 1, Int.le_refl _⟩)) []) : F_law_draws [.val (.dict [(.none, .list (cells.map .int))])] K := by
  refine ⟨rfl, ?_⟩
  unfold c_law_draws
  show c_lst _ [.val _] _
  walk_at "dl"
  exact h
theorem law_ok {cells : List Int} {K : OK} (h : K (.bool true) []) : F_law [.val (.dict [(.none, .list (cells.map .int))])] K := by
  refine ⟨rfl, ?_⟩
  unfold c_law
  show DL.c_seq _ _ _ [.val _, .un, .un, .un, .un, .un, .un, .un, .un, .un, .un, .un, .un, .un, .un, .un, .un, .un, .un, .un, .un, .un, .un, .un, .un, .un]
  try simp only [c_seq]
  unfold c_law_1
  walk_at "dl"
  refine draws_ok ?_
  walk_at "dl"
  refine law_35 fun _ _ _ _ _ _ _ _ _ _ _ _ _ _ _ _ _ _ _ _ _ _ _ _ _ => ?_
  unfold c_law_36
  walk_at "dl"
  exact h
end
end K22

/-! text F22 -/
set_option Elab.async false
set_option linter.all false
set_option maxRecDepth 100000
set_option maxHeartbeats 1000000
namespace K22
open PySem PySem.Spec PyProof.Rows L2 PySem.SeqAt DL
abbrev FnP (K : PySem.W.Frag) (x : Str) (i : Nat) (f : Addr) (fd : FuncData) : Prop := FunD K x x (defArgs (top i)) (defBody (top i)) (defScope (top i)) [] [] f fd
section
variable {P : Program} {w : World} {K : PySem.W.Frag} {mg : Str → Option Value} {base : Heap}
/-- a def that is there, and keeps its promise -/
def Has (P : Program) (w : World) (K : PySem.W.Frag) (mg : Str → Option Value) (base : Heap) (k : Nat) (x : Str) (sp : Sp) : Prop := ∃ f fd ps, FnOk P w K mg base CX0 k f fd ps sp ∧ mg x = some (.ref f) ∧ PySem.W.keepIn K (.ref f) = true ∧ Binds K fd ps []
theorem Has.mono {j k : Nat} {x : Str} {sp : Sp} (h : Has P w K mg base j x sp) (l : j ≤ k) : Has P w K mg base k x sp := let ⟨f, fd, ps, a, b⟩ := h; ⟨f, fd, ps, a.mono l, b⟩

theorem sc_is_whole_ok : FnScope N_is_whole P_is_whole sc_is_whole := ⟨rfl, rfl, rfl, by decide +kernel, rfl, by decide +kernel, by decide +kernel⟩
theorem has_is_whole {f : Addr} {fd : FuncData} {k : Nat} (F : FnP K "is_whole" 4 f fd) (g : mg "is_whole" = some (.ref f))   (bisinstance : mg "isinstance" = none) (bint : mg "int" = none) (bbool : mg "bool" = none)  : Has P w K mg base (k + 1) "is_whole" (spOf K F_is_whole) :=
  ⟨f, fd, P_is_whole, fn_ok (n := 0) (N := N_is_whole) (ps := P_is_whole) (kons := kons_is_whole) (blts := blts_is_whole) (fns := fns_is_whole) (keys := keys_is_whole) (news := news_is_whole) F sc_is_whole_ok (by decide) c_is_whole_eq
    (fun x h => by
    simp only [blts_is_whole, List.mem_cons, List.not_mem_nil, or_false] at h
    rcases h with rfl | rfl | rfl
    · exact bisinstance
    · exact bint
    · exact bbool
   )
    (fun x d h => by simp [kons_is_whole] at h)
    (fun x fl G h => by simp [fns_is_whole] at h)
    (fun x G h => by simp [keys_is_whole] at h)
    (fun x G h => by simp [news_is_whole] at h), g, F.kp, F.bindsN fun _ _ _ _ _ _ us hl => match us, hl with | [_], _ => rfl⟩
theorem sc_twos_ok : FnScope N_twos P_twos sc_twos := ⟨rfl, rfl, rfl, by decide +kernel, rfl, by decide +kernel, by decide +kernel⟩
theorem has_twos {f : Addr} {fd : FuncData} {k : Nat} (F : FnP K "twos" 5 f fd) (g : mg "twos" = some (.ref f))     : Has P w K mg base (k + 1) "twos" (spOf K F_twos) :=
  ⟨f, fd, P_twos, fn_ok (n := 0) (N := N_twos) (ps := P_twos) (kons := kons_twos) (blts := blts_twos) (fns := fns_twos) (keys := keys_twos) (news := news_twos) F sc_twos_ok (by decide) c_twos_eq
    (fun x h => by simp [blts_twos] at h)
    (fun x d h => by simp [kons_twos] at h)
    (fun x fl G h => by simp [fns_twos] at h)
    (fun x G h => by simp [keys_twos] at h)
    (fun x G h => by simp [news_twos] at h), g, F.kp, F.bindsN fun _ _ _ _ _ _ us hl => match us, hl with | [_], _ => rfl⟩
theorem sc_size_under_ok : FnScope N_size_under P_size_under sc_size_under := ⟨rfl, rfl, rfl, by decide +kernel, rfl, by decide +kernel, by decide +kernel⟩
theorem has_size_under {f : Addr} {fd : FuncData} {k : Nat} (F : FnP K "size_under" 8 f fd) (g : mg "size_under" = some (.ref f)) (htwos : Has P w K mg base k "twos" (spOf K F_twos))    : Has P w K mg base (k + 1) "size_under" (spOf K F_size_under) :=
  ⟨f, fd, P_size_under, fn_ok (n := 0) (N := N_size_under) (ps := P_size_under) (kons := kons_size_under) (blts := blts_size_under) (fns := fns_size_under) (keys := keys_size_under) (news := news_size_under) F sc_size_under_ok (by decide) c_size_under_eq
    (fun x h => by simp [blts_size_under] at h)
    (fun x d h => by simp [kons_size_under] at h)
    (fun x fl G h => by
    simp only [fns_size_under, List.mem_cons, List.not_mem_nil, or_false, Prod.mk.injEq] at h
    rcases h with ⟨rfl, rfl, rfl⟩
    · exact htwos
   )
    (fun x G h => by simp [keys_size_under] at h)
    (fun x G h => by simp [news_size_under] at h), g, F.kp, F.bindsN fun _ _ _ _ _ _ us hl => match us, hl with | [_, _], _ => rfl⟩
theorem sc_look_at_bits_ok : FnScope N_look_at_bits P_look_at_bits sc_look_at_bits := ⟨rfl, rfl, rfl, by decide +kernel, rfl, by decide +kernel, by decide +kernel⟩
theorem has_look_at_bits {f : Addr} {fd : FuncData} {k : Nat} (F : FnP K "look_at_bits" 9 f fd) (g : mg "look_at_bits" = some (.ref f)) (his_whole : Has P w K mg base k "is_whole" (spOf K F_is_whole))   (cMOST_BITS : ∃ t, mg "MOST_BITS" = some (.int 20 t)) : Has P w K mg base (k + 1) "look_at_bits" (spOf K F_look_at_bits) :=
  ⟨f, fd, P_look_at_bits, fn_ok (n := 0) (N := N_look_at_bits) (ps := P_look_at_bits) (kons := kons_look_at_bits) (blts := blts_look_at_bits) (fns := fns_look_at_bits) (keys := keys_look_at_bits) (news := news_look_at_bits) F sc_look_at_bits_ok (by decide) c_look_at_bits_eq
    (fun x h => by simp [blts_look_at_bits] at h)
    (fun x d h => by
    simp only [kons_look_at_bits, List.mem_cons, List.not_mem_nil, or_false, Prod.mk.injEq] at h
    obtain ⟨rfl, rfl⟩ := h
    obtain ⟨t, e⟩ := cMOST_BITS
    exact ⟨.int 20, _, e, ⟨t, rfl⟩, fun _ _ => .int 20⟩)
    (fun x fl G h => by
    simp only [fns_look_at_bits, List.mem_cons, List.not_mem_nil, or_false, Prod.mk.injEq] at h
    rcases h with ⟨rfl, rfl, rfl⟩
    · exact his_whole
   )
    (fun x G h => by simp [keys_look_at_bits] at h)
    (fun x G h => by simp [news_look_at_bits] at h), g, F.kp, F.bindsN fun _ _ _ _ _ _ us hl => match us, hl with | [_], _ => rfl⟩
theorem sc_look_at_interval_ok : FnScope N_look_at_interval P_look_at_interval sc_look_at_interval := ⟨rfl, rfl, rfl, by decide +kernel, rfl, by decide +kernel, by decide +kernel⟩
theorem has_look_at_interval {f : Addr} {fd : FuncData} {k : Nat} (F : FnP K "look_at_interval" 10 f fd) (g : mg "look_at_interval" = some (.ref f)) (hlook_at_bits : Has P w K mg base k "look_at_bits" (spOf K F_look_at_bits)) (his_whole : Has P w K mg base k "is_whole" (spOf K F_is_whole)) (hsize_under : Has P w K mg base k "size_under" (spOf K F_size_under))    : Has P w K mg base (k + 1) "look_at_interval" (spOf K F_look_at_interval) :=
  ⟨f, fd, P_look_at_interval, fn_ok (n := 0) (N := N_look_at_interval) (ps := P_look_at_interval) (kons := kons_look_at_interval) (blts := blts_look_at_interval) (fns := fns_look_at_interval) (keys := keys_look_at_interval) (news := news_look_at_interval) F sc_look_at_interval_ok (by decide) c_look_at_interval_eq
    (fun x h => by simp [blts_look_at_interval] at h)
    (fun x d h => by simp [kons_look_at_interval] at h)
    (fun x fl G h => by
    simp only [fns_look_at_interval, List.mem_cons, List.not_mem_nil, or_false, Prod.mk.injEq] at h
    rcases h with ⟨rfl, rfl, rfl⟩ | ⟨rfl, rfl, rfl⟩ | ⟨rfl, rfl, rfl⟩
    · exact hlook_at_bits
    · exact his_whole
    · exact hsize_under
   )
    (fun x G h => by simp [keys_look_at_interval] at h)
    (fun x G h => by simp [news_look_at_interval] at h), g, F.kp, F.bindsN fun _ _ _ _ _ _ us hl => match us, hl with | [_, _, _], _ => rfl⟩
theorem sc_is_prefix_ok : FnScope N_is_prefix P_is_prefix sc_is_prefix := ⟨rfl, rfl, rfl, by decide +kernel, rfl, by decide +kernel, by decide +kernel⟩
theorem has_is_prefix {f : Addr} {fd : FuncData} {k : Nat} (F : FnP K "is_prefix" 11 f fd) (g : mg "is_prefix" = some (.ref f)) (hlook_at_bits : Has P w K mg base k "look_at_bits" (spOf K F_look_at_bits)) (his_whole : Has P w K mg base k "is_whole" (spOf K F_is_whole)) (hsize_under : Has P w K mg base k "size_under" (spOf K F_size_under))  (blen : mg "len" = none) (bisinstance : mg "isinstance" = none) (btuple : mg "tuple" = none)  : Has P w K mg base (k + 1) "is_prefix" (spOf K F_is_prefix) :=
  ⟨f, fd, P_is_prefix, fn_ok (n := 0) (N := N_is_prefix) (ps := P_is_prefix) (kons := kons_is_prefix) (blts := blts_is_prefix) (fns := fns_is_prefix) (keys := keys_is_prefix) (news := news_is_prefix) F sc_is_prefix_ok (by decide) c_is_prefix_eq
    (fun x h => by
    simp only [blts_is_prefix, List.mem_cons, List.not_mem_nil, or_false] at h
    rcases h with rfl | rfl | rfl
    · exact blen
    · exact bisinstance
    · exact btuple
   )
    (fun x d h => by simp [kons_is_prefix] at h)
    (fun x fl G h => by
    simp only [fns_is_prefix, List.mem_cons, List.not_mem_nil, or_false, Prod.mk.injEq] at h
    rcases h with ⟨rfl, rfl, rfl⟩ | ⟨rfl, rfl, rfl⟩ | ⟨rfl, rfl, rfl⟩
    · exact hlook_at_bits
    · exact his_whole
    · exact hsize_under
   )
    (fun x G h => by simp [keys_is_prefix] at h)
    (fun x G h => by simp [news_is_prefix] at h), g, F.kp, F.bindsN fun _ _ _ _ _ _ us hl => match us, hl with | [_, _], _ => rfl⟩
theorem sc_look_at_prefix_ok : FnScope N_look_at_prefix P_look_at_prefix sc_look_at_prefix := ⟨rfl, rfl, rfl, by decide +kernel, rfl, by decide +kernel, by decide +kernel⟩
theorem has_look_at_prefix {f : Addr} {fd : FuncData} {k : Nat} (F : FnP K "look_at_prefix" 12 f fd) (g : mg "look_at_prefix" = some (.ref f)) (his_prefix : Has P w K mg base k "is_prefix" (spOf K F_is_prefix))    : Has P w K mg base (k + 1) "look_at_prefix" (spOf K F_look_at_prefix) :=
  ⟨f, fd, P_look_at_prefix, fn_ok (n := 0) (N := N_look_at_prefix) (ps := P_look_at_prefix) (kons := kons_look_at_prefix) (blts := blts_look_at_prefix) (fns := fns_look_at_prefix) (keys := keys_look_at_prefix) (news := news_look_at_prefix) F sc_look_at_prefix_ok (by decide) c_look_at_prefix_eq
    (fun x h => by simp [blts_look_at_prefix] at h)
    (fun x d h => by simp [kons_look_at_prefix] at h)
    (fun x fl G h => by
    simp only [fns_look_at_prefix, List.mem_cons, List.not_mem_nil, or_false, Prod.mk.injEq] at h
    rcases h with ⟨rfl, rfl, rfl⟩
    · exact his_prefix
   )
    (fun x G h => by simp [keys_look_at_prefix] at h)
    (fun x G h => by simp [news_look_at_prefix] at h), g, F.kp, F.bindsN fun _ _ _ _ _ _ us hl => match us, hl with | [_, _], _ => rfl⟩
theorem sc_interval_of_ok : FnScope N_interval_of P_interval_of sc_interval_of := ⟨rfl, rfl, rfl, by decide +kernel, rfl, by decide +kernel, by decide +kernel⟩
theorem has_interval_of {f : Addr} {fd : FuncData} {k : Nat} (F : FnP K "interval_of" 13 f fd) (g : mg "interval_of" = some (.ref f)) (hlook_at_prefix : Has P w K mg base k "look_at_prefix" (spOf K F_look_at_prefix)) (hsize_under : Has P w K mg base k "size_under" (spOf K F_size_under))    : Has P w K mg base (k + 1) "interval_of" (spOf K F_interval_of) :=
  ⟨f, fd, P_interval_of, fn_ok (n := 0) (N := N_interval_of) (ps := P_interval_of) (kons := kons_interval_of) (blts := blts_interval_of) (fns := fns_interval_of) (keys := keys_interval_of) (news := news_interval_of) F sc_interval_of_ok (by decide) c_interval_of_eq
    (fun x h => by simp [blts_interval_of] at h)
    (fun x d h => by simp [kons_interval_of] at h)
    (fun x fl G h => by
    simp only [fns_interval_of, List.mem_cons, List.not_mem_nil, or_false, Prod.mk.injEq] at h
    rcases h with ⟨rfl, rfl, rfl⟩ | ⟨rfl, rfl, rfl⟩
    · exact hlook_at_prefix
    · exact hsize_under
   )
    (fun x G h => by simp [keys_interval_of] at h)
    (fun x G h => by simp [news_interval_of] at h), g, F.kp, F.bindsN fun _ _ _ _ _ _ us hl => match us, hl with | [_, _], _ => rfl⟩
theorem sc_prefixes_of_ok : FnScope N_prefixes_of P_prefixes_of sc_prefixes_of := ⟨rfl, rfl, rfl, by decide +kernel, rfl, by decide +kernel, by decide +kernel⟩
theorem has_prefixes_of {f : Addr} {fd : FuncData} {k : Nat} (F : FnP K "prefixes_of" 14 f fd) (g : mg "prefixes_of" = some (.ref f)) (hlook_at_interval : Has P w K mg base k "look_at_interval" (spOf K F_look_at_interval)) (hsize_under : Has P w K mg base k "size_under" (spOf K F_size_under))  (btuple : mg "tuple" = none)  : Has P w K mg base (k + 1) "prefixes_of" (spOf K F_prefixes_of) :=
  ⟨f, fd, P_prefixes_of, fn_ok (n := 0) (N := N_prefixes_of) (ps := P_prefixes_of) (kons := kons_prefixes_of) (blts := blts_prefixes_of) (fns := fns_prefixes_of) (keys := keys_prefixes_of) (news := news_prefixes_of) F sc_prefixes_of_ok (by decide) c_prefixes_of_eq
    (fun x h => by
    simp only [blts_prefixes_of, List.mem_cons, List.not_mem_nil, or_false] at h
    rcases h with rfl
    · exact btuple
   )
    (fun x d h => by simp [kons_prefixes_of] at h)
    (fun x fl G h => by
    simp only [fns_prefixes_of, List.mem_cons, List.not_mem_nil, or_false, Prod.mk.injEq] at h
    rcases h with ⟨rfl, rfl, rfl⟩ | ⟨rfl, rfl, rfl⟩
    · exact hlook_at_interval
    · exact hsize_under
   )
    (fun x G h => by simp [keys_prefixes_of] at h)
    (fun x G h => by simp [news_prefixes_of] at h), g, F.kp, F.bindsN fun _ _ _ _ _ _ us hl => match us, hl with | [_, _, _], _ => rfl⟩
theorem sc_prefix_signs_ok : FnScope N_prefix_signs P_prefix_signs sc_prefix_signs := ⟨rfl, rfl, rfl, by decide +kernel, rfl, by decide +kernel, by decide +kernel⟩
theorem has_prefix_signs {f : Addr} {fd : FuncData} {k : Nat} (F : FnP K "prefix_signs" 15 f fd) (g : mg "prefix_signs" = some (.ref f)) (hlook_at_prefix : Has P w K mg base k "look_at_prefix" (spOf K F_look_at_prefix)) (hsize_under : Has P w K mg base k "size_under" (spOf K F_size_under))  (brange : mg "range" = none) (bstr : mg "str" = none)  : Has P w K mg base (k + 1) "prefix_signs" (spOf K F_prefix_signs) :=
  ⟨f, fd, P_prefix_signs, fn_ok (n := 0) (N := N_prefix_signs) (ps := P_prefix_signs) (kons := kons_prefix_signs) (blts := blts_prefix_signs) (fns := fns_prefix_signs) (keys := keys_prefix_signs) (news := news_prefix_signs) F sc_prefix_signs_ok (by decide) c_prefix_signs_eq
    (fun x h => by
    simp only [blts_prefix_signs, List.mem_cons, List.not_mem_nil, or_false] at h
    rcases h with rfl | rfl
    · exact brange
    · exact bstr
   )
    (fun x d h => by simp [kons_prefix_signs] at h)
    (fun x fl G h => by
    simp only [fns_prefix_signs, List.mem_cons, List.not_mem_nil, or_false, Prod.mk.injEq] at h
    rcases h with ⟨rfl, rfl, rfl⟩ | ⟨rfl, rfl, rfl⟩
    · exact hlook_at_prefix
    · exact hsize_under
   )
    (fun x G h => by simp [keys_prefix_signs] at h)
    (fun x G h => by simp [news_prefix_signs] at h), g, F.kp, F.bindsN fun _ _ _ _ _ _ us hl => match us, hl with | [_, _], _ => rfl⟩
theorem sc_joined_prefixes_ok : FnScope N_joined_prefixes P_joined_prefixes sc_joined_prefixes := ⟨rfl, rfl, rfl, by decide +kernel, rfl, by decide +kernel, by decide +kernel⟩
theorem has_joined_prefixes {f : Addr} {fd : FuncData} {k : Nat} (F : FnP K "joined_prefixes" 16 f fd) (g : mg "joined_prefixes" = some (.ref f)) (hlook_at_bits : Has P w K mg base k "look_at_bits" (spOf K F_look_at_bits)) (hinterval_of : Has P w K mg base k "interval_of" (spOf K F_interval_of)) (hprefixes_of : Has P w K mg base k "prefixes_of" (spOf K F_prefixes_of))  (blen : mg "len" = none) (bsorted : mg "sorted" = none) (bmax : mg "max" = none)  : Has P w K mg base (k + 1) "joined_prefixes" (spOf K F_joined_prefixes) :=
  ⟨f, fd, P_joined_prefixes, fn_ok (n := 0) (N := N_joined_prefixes) (ps := P_joined_prefixes) (kons := kons_joined_prefixes) (blts := blts_joined_prefixes) (fns := fns_joined_prefixes) (keys := keys_joined_prefixes) (news := news_joined_prefixes) F sc_joined_prefixes_ok (by decide) c_joined_prefixes_eq
    (fun x h => by
    simp only [blts_joined_prefixes, List.mem_cons, List.not_mem_nil, or_false] at h
    rcases h with rfl | rfl | rfl
    · exact blen
    · exact bsorted
    · exact bmax
   )
    (fun x d h => by simp [kons_joined_prefixes] at h)
    (fun x fl G h => by
    simp only [fns_joined_prefixes, List.mem_cons, List.not_mem_nil, or_false, Prod.mk.injEq] at h
    rcases h with ⟨rfl, rfl, rfl⟩ | ⟨rfl, rfl, rfl⟩ | ⟨rfl, rfl, rfl⟩
    · exact hlook_at_bits
    · exact hinterval_of
    · exact hprefixes_of
   )
    (fun x G h => by simp [keys_joined_prefixes] at h)
    (fun x G h => by simp [news_joined_prefixes] at h), g, F.kp, F.bindsN fun _ _ _ _ _ _ us hl => match us, hl with | [_, _], _ => rfl⟩
theorem sc_within_prefix_ok : FnScope N_within_prefix P_within_prefix sc_within_prefix := ⟨rfl, rfl, rfl, by decide +kernel, rfl, by decide +kernel, by decide +kernel⟩
theorem has_within_prefix {f : Addr} {fd : FuncData} {k : Nat} (F : FnP K "within_prefix" 19 f fd) (g : mg "within_prefix" = some (.ref f)) (hinterval_of : Has P w K mg base k "interval_of" (spOf K F_interval_of))    : Has P w K mg base (k + 1) "within_prefix" (spOf K F_within_prefix) :=
  ⟨f, fd, P_within_prefix, fn_ok (n := 0) (N := N_within_prefix) (ps := P_within_prefix) (kons := kons_within_prefix) (blts := blts_within_prefix) (fns := fns_within_prefix) (keys := keys_within_prefix) (news := news_within_prefix) F sc_within_prefix_ok (by decide) c_within_prefix_eq
    (fun x h => by simp [blts_within_prefix] at h)
    (fun x d h => by simp [kons_within_prefix] at h)
    (fun x fl G h => by
    simp only [fns_within_prefix, List.mem_cons, List.not_mem_nil, or_false, Prod.mk.injEq] at h
    rcases h with ⟨rfl, rfl, rfl⟩
    · exact hinterval_of
   )
    (fun x G h => by simp [keys_within_prefix] at h)
    (fun x G h => by simp [news_within_prefix] at h), g, F.kp, F.bindsN fun _ _ _ _ _ _ us hl => match us, hl with | [_, _, _], _ => rfl⟩
theorem sc_told_bits_ok : FnScope N_told_bits P_told_bits sc_told_bits := ⟨rfl, rfl, rfl, by decide +kernel, rfl, by decide +kernel, by decide +kernel⟩
theorem has_told_bits {f : Addr} {fd : FuncData} {k : Nat} (F : FnP K "told_bits" 18 f fd) (g : mg "told_bits" = some (.ref f))     : Has P w K mg base (k + 1) "told_bits" (spOf K F_told_bits) :=
  ⟨f, fd, P_told_bits, fn_ok (n := 0) (N := N_told_bits) (ps := P_told_bits) (kons := kons_told_bits) (blts := blts_told_bits) (fns := fns_told_bits) (keys := keys_told_bits) (news := news_told_bits) F sc_told_bits_ok (by decide) c_told_bits_eq
    (fun x h => by simp [blts_told_bits] at h)
    (fun x d h => by simp [kons_told_bits] at h)
    (fun x fl G h => by simp [fns_told_bits] at h)
    (fun x G h => by simp [keys_told_bits] at h)
    (fun x G h => by simp [news_told_bits] at h), g, F.kp, F.bindsN fun _ _ _ _ _ _ us hl => match us, hl with | [_], _ => rfl⟩
theorem sc_longest_fit_ok : FnScope N_longest_fit P_longest_fit sc_longest_fit := ⟨rfl, rfl, rfl, by decide +kernel, rfl, by decide +kernel, by decide +kernel⟩
theorem has_longest_fit {f : Addr} {fd : FuncData} {k : Nat} (F : FnP K "longest_fit" 17 f fd) (g : mg "longest_fit" = some (.ref f)) (hlook_at_interval : Has P w K mg base k "look_at_interval" (spOf K F_look_at_interval)) (hwithin_prefix : Has P w K mg base k "within_prefix" (spOf K F_within_prefix))  (ktold_bits : ∃ k', k' + 1 ≤ k ∧ Has P w K mg base k' "told_bits" (spOf K F_told_bits)) (blen : mg "len" = none) (bmax : mg "max" = none)  : Has P w K mg base (k + 1) "longest_fit" (spOf K F_longest_fit) :=
  ⟨f, fd, P_longest_fit, fn_ok (n := 0) (N := N_longest_fit) (ps := P_longest_fit) (kons := kons_longest_fit) (blts := blts_longest_fit) (fns := fns_longest_fit) (keys := keys_longest_fit) (news := news_longest_fit) F sc_longest_fit_ok (by decide) c_longest_fit_eq
    (fun x h => by
    simp only [blts_longest_fit, List.mem_cons, List.not_mem_nil, or_false] at h
    rcases h with rfl | rfl
    · exact blen
    · exact bmax
   )
    (fun x d h => by simp [kons_longest_fit] at h)
    (fun x fl G h => by
    simp only [fns_longest_fit, List.mem_cons, List.not_mem_nil, or_false, Prod.mk.injEq] at h
    rcases h with ⟨rfl, rfl, rfl⟩ | ⟨rfl, rfl, rfl⟩
    · exact hlook_at_interval
    · exact hwithin_prefix
   )
    (fun x G h => by
    simp only [keys_longest_fit, List.mem_cons, List.not_mem_nil, or_false, Prod.mk.injEq] at h
    obtain ⟨rfl, rfl⟩ := h
    obtain ⟨k', l, f, fd, ps, a, b, c, e⟩ := ktold_bits
    exact ⟨f, fd, ps, k', l, a, b, e⟩)
    (fun x G h => by simp [news_longest_fit] at h), g, F.kp, F.bindsN fun _ _ _ _ _ _ us hl => match us, hl with | [_, _, _], _ => rfl⟩
theorem sc_apart_by_ok : FnScope N_apart_by P_apart_by sc_apart_by := ⟨rfl, rfl, rfl, by decide +kernel, rfl, by decide +kernel, by decide +kernel⟩
theorem has_apart_by {f : Addr} {fd : FuncData} {k : Nat} (F : FnP K "apart_by" 20 f fd) (g : mg "apart_by" = some (.ref f)) (hprefixes_of : Has P w K mg base k "prefixes_of" (spOf K F_prefixes_of))  (btuple : mg "tuple" = none)  : Has P w K mg base (k + 1) "apart_by" (spOf K F_apart_by) :=
  ⟨f, fd, P_apart_by, fn_ok (n := 0) (N := N_apart_by) (ps := P_apart_by) (kons := kons_apart_by) (blts := blts_apart_by) (fns := fns_apart_by) (keys := keys_apart_by) (news := news_apart_by) F sc_apart_by_ok (by decide) c_apart_by_eq
    (fun x h => by
    simp only [blts_apart_by, List.mem_cons, List.not_mem_nil, or_false] at h
    rcases h with rfl
    · exact btuple
   )
    (fun x d h => by simp [kons_apart_by] at h)
    (fun x fl G h => by
    simp only [fns_apart_by, List.mem_cons, List.not_mem_nil, or_false, Prod.mk.injEq] at h
    rcases h with ⟨rfl, rfl, rfl⟩
    · exact hprefixes_of
   )
    (fun x G h => by simp [keys_apart_by] at h)
    (fun x G h => by simp [news_apart_by] at h), g, F.kp, F.bindsN fun _ _ _ _ _ _ us hl => match us, hl with | [_, _, _], _ => rfl⟩
theorem sc_shared_within_ok : FnScope N_shared_within P_shared_within sc_shared_within := ⟨rfl, rfl, rfl, by decide +kernel, rfl, by decide +kernel, by decide +kernel⟩
theorem has_shared_within {f : Addr} {fd : FuncData} {k : Nat} (F : FnP K "shared_within" 22 f fd) (g : mg "shared_within" = some (.ref f)) (hsize_under : Has P w K mg base k "size_under" (spOf K F_size_under))    : Has P w K mg base (k + 1) "shared_within" (spOf K F_shared_within) :=
  ⟨f, fd, P_shared_within, fn_ok (n := 0) (N := N_shared_within) (ps := P_shared_within) (kons := kons_shared_within) (blts := blts_shared_within) (fns := fns_shared_within) (keys := keys_shared_within) (news := news_shared_within) F sc_shared_within_ok (by decide) c_shared_within_eq
    (fun x h => by simp [blts_shared_within] at h)
    (fun x d h => by simp [kons_shared_within] at h)
    (fun x fl G h => by
    simp only [fns_shared_within, List.mem_cons, List.not_mem_nil, or_false, Prod.mk.injEq] at h
    rcases h with ⟨rfl, rfl, rfl⟩
    · exact hsize_under
   )
    (fun x G h => by simp [keys_shared_within] at h)
    (fun x G h => by simp [news_shared_within] at h), g, F.kp, F.bindsN fun _ _ _ _ _ _ us hl => match us, hl with | [_, _, _, _, _], _ => rfl⟩
theorem sc_are_apart_ok : FnScope N_are_apart P_are_apart sc_are_apart := ⟨rfl, rfl, rfl, by decide +kernel, rfl, by decide +kernel, by decide +kernel⟩
theorem has_are_apart {f : Addr} {fd : FuncData} {k : Nat} (F : FnP K "are_apart" 21 f fd) (g : mg "are_apart" = some (.ref f)) (hlook_at_interval : Has P w K mg base k "look_at_interval" (spOf K F_look_at_interval)) (hshared_within : Has P w K mg base k "shared_within" (spOf K F_shared_within)) (his_whole : Has P w K mg base k "is_whole" (spOf K F_is_whole))  (bisinstance : mg "isinstance" = none) (btuple : mg "tuple" = none) (bzip : mg "zip" = none) (ball : mg "all" = none) (bany : mg "any" = none)  : Has P w K mg base (k + 1) "are_apart" (spOf K F_are_apart) :=
  ⟨f, fd, P_are_apart, fn_ok (n := 0) (N := N_are_apart) (ps := P_are_apart) (kons := kons_are_apart) (blts := blts_are_apart) (fns := fns_are_apart) (keys := keys_are_apart) (news := news_are_apart) F sc_are_apart_ok (by decide) c_are_apart_eq
    (fun x h => by
    simp only [blts_are_apart, List.mem_cons, List.not_mem_nil, or_false] at h
    rcases h with rfl | rfl | rfl | rfl | rfl
    · exact bisinstance
    · exact btuple
    · exact bzip
    · exact ball
    · exact bany
   )
    (fun x d h => by simp [kons_are_apart] at h)
    (fun x fl G h => by
    simp only [fns_are_apart, List.mem_cons, List.not_mem_nil, or_false, Prod.mk.injEq] at h
    rcases h with ⟨rfl, rfl, rfl⟩ | ⟨rfl, rfl, rfl⟩ | ⟨rfl, rfl, rfl⟩
    · exact hlook_at_interval
    · exact hshared_within
    · exact his_whole
   )
    (fun x G h => by simp [keys_are_apart] at h)
    (fun x G h => by simp [news_are_apart] at h), g, F.kp, F.bindsN fun _ _ _ _ _ _ us hl => match us, hl with | [_, _, _, _], _ => rfl⟩
theorem sc_law_draws_ok : FnScope N_law_draws P_law_draws sc_law_draws := ⟨rfl, rfl, rfl, by decide +kernel, rfl, by decide +kernel, by decide +kernel⟩
theorem has_law_draws {f : Addr} {fd : FuncData} {k : Nat} (F : FnP K "_law_draws" 24 f fd) (g : mg "_law_draws" = some (.ref f))   (blist : mg "list" = none)  : Has P w K mg base (k + 1) "_law_draws" (spNew K F_law_draws) :=
  ⟨f, fd, P_law_draws, fn_okNew (N := N_law_draws) (ps := P_law_draws) (kons := kons_law_draws) (blts := blts_law_draws) (fns := fns_law_draws) F sc_law_draws_ok (by decide) c_law_draws_eq
    (fun x h => by
    simp only [blts_law_draws, List.mem_cons, List.not_mem_nil, or_false] at h
    rcases h with rfl
    · exact blist
   )
    (fun x d h => by simp [kons_law_draws] at h)
    (fun x fl G h => by simp [fns_law_draws] at h), g, F.kp, F.bindsN fun _ _ _ _ _ _ us hl => match us, hl with | [_], _ => rfl⟩
theorem sc_law_draw_ok : FnScope N_law_draw P_law_draw sc_law_draw := ⟨rfl, rfl, rfl, by decide +kernel, rfl, by decide +kernel, by decide +kernel⟩
theorem has_law_draw {f : Addr} {fd : FuncData} {k : Nat} (F : FnP K "_law_draw" 25 f fd) (g : mg "_law_draw" = some (.ref f))   (blen : mg "len" = none) (bint : mg "int" = none)  : Has P w K mg base (k + 1) "_law_draw" (spOf K F_law_draw) :=
  ⟨f, fd, P_law_draw, fn_ok (n := 0) (N := N_law_draw) (ps := P_law_draw) (kons := kons_law_draw) (blts := blts_law_draw) (fns := fns_law_draw) (keys := keys_law_draw) (news := news_law_draw) F sc_law_draw_ok (by decide) c_law_draw_eq
    (fun x h => by
    simp only [blts_law_draw, List.mem_cons, List.not_mem_nil, or_false] at h
    rcases h with rfl | rfl
    · exact blen
    · exact bint
   )
    (fun x d h => by simp [kons_law_draw] at h)
    (fun x fl G h => by simp [fns_law_draw] at h)
    (fun x G h => by simp [keys_law_draw] at h)
    (fun x G h => by simp [news_law_draw] at h), g, F.kp, F.bindsN fun _ _ _ _ _ _ us hl => match us, hl with | [_, _], _ => rfl⟩
theorem sc_law_pick_ok : FnScope N_law_pick P_law_pick sc_law_pick := ⟨rfl, rfl, rfl, by decide +kernel, rfl, by decide +kernel, by decide +kernel⟩
theorem has_law_pick {f : Addr} {fd : FuncData} {k : Nat} (F : FnP K "_law_pick" 26 f fd) (g : mg "_law_pick" = some (.ref f)) (hlaw_draw : Has P w K mg base k "_law_draw" (spOf K F_law_draw))  (blen : mg "len" = none)  : Has P w K mg base (k + 1) "_law_pick" (spOf K F_law_pick) :=
  ⟨f, fd, P_law_pick, fn_ok (n := 0) (N := N_law_pick) (ps := P_law_pick) (kons := kons_law_pick) (blts := blts_law_pick) (fns := fns_law_pick) (keys := keys_law_pick) (news := news_law_pick) F sc_law_pick_ok (by decide) c_law_pick_eq
    (fun x h => by
    simp only [blts_law_pick, List.mem_cons, List.not_mem_nil, or_false] at h
    rcases h with rfl
    · exact blen
   )
    (fun x d h => by simp [kons_law_pick] at h)
    (fun x fl G h => by
    simp only [fns_law_pick, List.mem_cons, List.not_mem_nil, or_false, Prod.mk.injEq] at h
    rcases h with ⟨rfl, rfl, rfl⟩
    · exact hlaw_draw
   )
    (fun x G h => by simp [keys_law_pick] at h)
    (fun x G h => by simp [news_law_pick] at h), g, F.kp, F.bindsN fun _ _ _ _ _ _ us hl => match us, hl with | [_, _], _ => rfl⟩
theorem sc_law_same_ok : FnScope N_law_same P_law_same sc_law_same := ⟨rfl, rfl, rfl, by decide +kernel, rfl, by decide +kernel, by decide +kernel⟩
theorem has_law_same' {f : Addr} {fd : FuncData} {k : Nat} (F : FnP K "_law_same" 27 f fd) (g : mg "_law_same" = some (.ref f))   (blen : mg "len" = none) (bisinstance : mg "isinstance" = none) (blist : mg "list" = none) (btuple : mg "tuple" = none) (brange : mg "range" = none) (bint : mg "int" = none) (bstr : mg "str" = none) (bbool : mg "bool" = none)  : ∀ n, Has P w K mg base (k + n) "_law_same" (spOf K (itr F_law_same' n))
  | 0 => ⟨f, fd, P_law_same, ⟨fun vs H Q E h => by obtain ⟨_, _, _, _, _, _, _, z, _⟩ := h; exact z.elim, fun A outer s H args us vs Q E hr he hb hv h => by obtain ⟨_, _, _, _, _, _, _, z, _⟩ := h; exact z.elim⟩, g, F.kp, F.bindsN fun _ _ _ _ _ _ us hl => match us, hl with | [_, _], _ => rfl⟩
  | n + 1 =>
    have hrec := has_law_same' F g blen bisinstance blist btuple brange bint bstr bbool n
    ⟨f, fd, P_law_same, fn_ok (n := 0) (N := N_law_same) (ps := P_law_same) (kons := kons_law_same) (blts := blts_law_same) (fns := fns_law_same (itr F_law_same' n)) (keys := keys_law_same) (news := news_law_same) F sc_law_same_ok (by decide) (c_law_same_eq (itr F_law_same' n))
    (fun x h => by
    simp only [blts_law_same, List.mem_cons, List.not_mem_nil, or_false] at h
    rcases h with rfl | rfl | rfl | rfl | rfl | rfl | rfl | rfl
    · exact blen
    · exact bisinstance
    · exact blist
    · exact btuple
    · exact brange
    · exact bint
    · exact bstr
    · exact bbool
   )
    (fun x d h => by simp [kons_law_same] at h)
    (fun x fl G h => by
    simp only [fns_law_same, List.mem_cons, List.not_mem_nil, or_false, Prod.mk.injEq] at h
    rcases h with ⟨rfl, rfl, rfl⟩
    · exact hrec
   )
    (fun x G h => by simp [keys_law_same] at h)
    (fun x G h => by simp [news_law_same] at h), g, F.kp, F.bindsN fun _ _ _ _ _ _ us hl => match us, hl with | [_, _], _ => rfl⟩
theorem has_law_same {f : Addr} {fd : FuncData} {k : Nat} (F : FnP K "_law_same" 27 f fd) (g : mg "_law_same" = some (.ref f))   (blen : mg "len" = none) (bisinstance : mg "isinstance" = none) (blist : mg "list" = none) (btuple : mg "tuple" = none) (brange : mg "range" = none) (bint : mg "int" = none) (bstr : mg "str" = none) (bbool : mg "bool" = none)  : Has P w K mg base (k + 60) "_law_same" (spOf K F_law_same) := has_law_same' F g blen bisinstance blist btuple brange bint bstr bbool 60
theorem sc_law_prefix_ok : FnScope N_law_prefix P_law_prefix sc_law_prefix := ⟨rfl, rfl, rfl, by decide +kernel, rfl, by decide +kernel, by decide +kernel⟩
theorem has_law_prefix {f : Addr} {fd : FuncData} {k : Nat} (F : FnP K "_law_prefix" 28 f fd) (g : mg "_law_prefix" = some (.ref f)) (hlaw_draw : Has P w K mg base k "_law_draw" (spOf K F_law_draw))    : Has P w K mg base (k + 1) "_law_prefix" (spOf K F_law_prefix) :=
  ⟨f, fd, P_law_prefix, fn_ok (n := 0) (N := N_law_prefix) (ps := P_law_prefix) (kons := kons_law_prefix) (blts := blts_law_prefix) (fns := fns_law_prefix) (keys := keys_law_prefix) (news := news_law_prefix) F sc_law_prefix_ok (by decide) c_law_prefix_eq
    (fun x h => by simp [blts_law_prefix] at h)
    (fun x d h => by simp [kons_law_prefix] at h)
    (fun x fl G h => by
    simp only [fns_law_prefix, List.mem_cons, List.not_mem_nil, or_false, Prod.mk.injEq] at h
    rcases h with ⟨rfl, rfl, rfl⟩
    · exact hlaw_draw
   )
    (fun x G h => by simp [keys_law_prefix] at h)
    (fun x G h => by simp [news_law_prefix] at h), g, F.kp, F.bindsN fun _ _ _ _ _ _ us hl => match us, hl with | [_, _], _ => rfl⟩
theorem sc_law_ends_ok : FnScope N_law_ends P_law_ends sc_law_ends := ⟨rfl, rfl, rfl, by decide +kernel, rfl, by decide +kernel, by decide +kernel⟩
theorem has_law_ends {f : Addr} {fd : FuncData} {k : Nat} (F : FnP K "_law_ends" 29 f fd) (g : mg "_law_ends" = some (.ref f))     : Has P w K mg base (k + 1) "_law_ends" (spOf K F_law_ends) :=
  ⟨f, fd, P_law_ends, fn_ok (n := 0) (N := N_law_ends) (ps := P_law_ends) (kons := kons_law_ends) (blts := blts_law_ends) (fns := fns_law_ends) (keys := keys_law_ends) (news := news_law_ends) F sc_law_ends_ok (by decide) c_law_ends_eq
    (fun x h => by simp [blts_law_ends] at h)
    (fun x d h => by simp [kons_law_ends] at h)
    (fun x fl G h => by simp [fns_law_ends] at h)
    (fun x G h => by simp [keys_law_ends] at h)
    (fun x G h => by simp [news_law_ends] at h), g, F.kp, F.bindsN fun _ _ _ _ _ _ us hl => match us, hl with | [_, _], _ => rfl⟩
theorem sc_law_runs_ok : FnScope N_law_runs P_law_runs sc_law_runs := ⟨rfl, rfl, rfl, by decide +kernel, rfl, by decide +kernel, by decide +kernel⟩
theorem has_law_runs {f : Addr} {fd : FuncData} {k : Nat} (F : FnP K "_law_runs" 30 f fd) (g : mg "_law_runs" = some (.ref f)) (hlaw_ends : Has P w K mg base k "_law_ends" (spOf K F_law_ends))  (blen : mg "len" = none) (bsorted : mg "sorted" = none) (bmax : mg "max" = none)  : Has P w K mg base (k + 1) "_law_runs" (spOf K F_law_runs) :=
  ⟨f, fd, P_law_runs, fn_ok (n := 0) (N := N_law_runs) (ps := P_law_runs) (kons := kons_law_runs) (blts := blts_law_runs) (fns := fns_law_runs) (keys := keys_law_runs) (news := news_law_runs) F sc_law_runs_ok (by decide) c_law_runs_eq
    (fun x h => by
    simp only [blts_law_runs, List.mem_cons, List.not_mem_nil, or_false] at h
    rcases h with rfl | rfl | rfl
    · exact blen
    · exact bsorted
    · exact bmax
   )
    (fun x d h => by simp [kons_law_runs] at h)
    (fun x fl G h => by
    simp only [fns_law_runs, List.mem_cons, List.not_mem_nil, or_false, Prod.mk.injEq] at h
    rcases h with ⟨rfl, rfl, rfl⟩
    · exact hlaw_ends
   )
    (fun x G h => by simp [keys_law_runs] at h)
    (fun x G h => by simp [news_law_runs] at h), g, F.kp, F.bindsN fun _ _ _ _ _ _ us hl => match us, hl with | [_, _], _ => rfl⟩
theorem sc_law_turned_ok : FnScope N_law_turned P_law_turned sc_law_turned := ⟨rfl, rfl, rfl, by decide +kernel, rfl, by decide +kernel, by decide +kernel⟩
theorem has_law_turned {f : Addr} {fd : FuncData} {k : Nat} (F : FnP K "_law_turned" 31 f fd) (g : mg "_law_turned" = some (.ref f)) (hlaw_draw : Has P w K mg base k "_law_draw" (spOf K F_law_draw))  (blen : mg "len" = none) (blist : mg "list" = none) (btuple : mg "tuple" = none) (brange : mg "range" = none)  : Has P w K mg base (k + 1) "_law_turned" (spOf K F_law_turned) :=
  ⟨f, fd, P_law_turned, fn_ok (n := 0) (N := N_law_turned) (ps := P_law_turned) (kons := kons_law_turned) (blts := blts_law_turned) (fns := fns_law_turned) (keys := keys_law_turned) (news := news_law_turned) F sc_law_turned_ok (by decide) c_law_turned_eq
    (fun x h => by
    simp only [blts_law_turned, List.mem_cons, List.not_mem_nil, or_false] at h
    rcases h with rfl | rfl | rfl | rfl
    · exact blen
    · exact blist
    · exact btuple
    · exact brange
   )
    (fun x d h => by simp [kons_law_turned] at h)
    (fun x fl G h => by
    simp only [fns_law_turned, List.mem_cons, List.not_mem_nil, or_false, Prod.mk.injEq] at h
    rcases h with ⟨rfl, rfl, rfl⟩
    · exact hlaw_draw
   )
    (fun x G h => by simp [keys_law_turned] at h)
    (fun x G h => by simp [news_law_turned] at h), g, F.kp, F.bindsN fun _ _ _ _ _ _ us hl => match us, hl with | [_, _], _ => rfl⟩
theorem sc_law_ok : FnScope N_law P_law sc_law := ⟨rfl, rfl, rfl, by decide +kernel, rfl, by decide +kernel, by decide +kernel⟩
theorem ok_law {f : Addr} {fd : FuncData} {k : Nat} (F : FnP K "law" 32 f fd) (hlaw_draw : Has P w K mg base k "_law_draw" (spOf K F_law_draw)) (hlaw_runs : Has P w K mg base k "_law_runs" (spOf K F_law_runs)) (hprefixes_of : Has P w K mg base k "prefixes_of" (spOf K F_prefixes_of)) (hapart_by : Has P w K mg base k "apart_by" (spOf K F_apart_by)) (hinterval_of : Has P w K mg base k "interval_of" (spOf K F_interval_of)) (hlaw_same : Has P w K mg base k "_law_same" (spOf K F_law_same)) (hjoined_prefixes : Has P w K mg base k "joined_prefixes" (spOf K F_joined_prefixes)) (hlongest_fit : Has P w K mg base k "longest_fit" (spOf K F_longest_fit)) (hprefix_signs : Has P w K mg base k "prefix_signs" (spOf K F_prefix_signs)) (hare_apart : Has P w K mg base k "are_apart" (spOf K F_are_apart)) (hlaw_prefix : Has P w K mg base k "_law_prefix" (spOf K F_law_prefix)) (hlaw_ends : Has P w K mg base k "_law_ends" (spOf K F_law_ends)) (hlaw_turned : Has P w K mg base k "_law_turned" (spOf K F_law_turned)) (his_prefix : Has P w K mg base k "is_prefix" (spOf K F_is_prefix)) (nlaw_draws : Has P w K mg base k "_law_draws" (spNew K F_law_draws)) (blen : mg "len" = none) (btuple : mg "tuple" = none) (brange : mg "range" = none) (bstr : mg "str" = none) (bmax : mg "max" = none)  : FnOk P w K mg base CX0 (k + 1) f fd P_law (spOf K F_law) :=
  fn_ok (n := 0) (N := N_law) (ps := P_law) (kons := kons_law) (blts := blts_law) (fns := fns_law) (keys := keys_law) (news := news_law) F sc_law_ok (by decide) c_law_eq
    (fun x h => by
    simp only [blts_law, List.mem_cons, List.not_mem_nil, or_false] at h
    rcases h with rfl | rfl | rfl | rfl | rfl
    · exact blen
    · exact btuple
    · exact brange
    · exact bstr
    · exact bmax
   )
    (fun x d h => by simp [kons_law] at h)
    (fun x fl G h => by
    simp only [fns_law, List.mem_cons, List.not_mem_nil, or_false, Prod.mk.injEq] at h
    rcases h with ⟨rfl, rfl, rfl⟩ | ⟨rfl, rfl, rfl⟩ | ⟨rfl, rfl, rfl⟩ | ⟨rfl, rfl, rfl⟩ | ⟨rfl, rfl, rfl⟩ | ⟨rfl, rfl, rfl⟩ | ⟨rfl, rfl, rfl⟩ | ⟨rfl, rfl, rfl⟩ | ⟨rfl, rfl, rfl⟩ | ⟨rfl, rfl, rfl⟩ | ⟨rfl, rfl, rfl⟩ | ⟨rfl, rfl, rfl⟩ | ⟨rfl, rfl, rfl⟩ | ⟨rfl, rfl, rfl⟩
    · exact hlaw_draw
    · exact hlaw_runs
    · exact hprefixes_of
    · exact hapart_by
    · exact hinterval_of
    · exact hlaw_same
    · exact hjoined_prefixes
    · exact hlongest_fit
    · exact hprefix_signs
    · exact hare_apart
    · exact hlaw_prefix
    · exact hlaw_ends
    · exact hlaw_turned
    · exact his_prefix
   )
    (fun x G h => by simp [keys_law] at h)
    (fun x G h => by
    simp only [news_law, List.mem_cons, List.not_mem_nil, or_false, Prod.mk.injEq] at h
    obtain ⟨rfl, rfl⟩ := h
    exact nlaw_draws)
end
end K22

/-! text H22 -/
set_option Elab.async false
set_option linter.all false
set_option maxRecDepth 100000
set_option maxHeartbeats 0
namespace H22
open PySem PySem.Spec PyProof.Rows L2
def top (i : Nat) : Stmt := PySem.Challenge.pw_doorrules_k22_whole_algebra_of_prefixes.main.body.getD i (.Pass ⟨0, 0, 0, 0⟩)
def mkd (x : Str) (i : Nat) : He.DefD := ⟨(x, none), x, x, defArgs (top i), defBody (top i), defScope (top i), [], []⟩
def fn : List He.DefD := [mkd "is_whole" 4, mkd "twos" 5, mkd "size_under" 8, mkd "look_at_bits" 9, mkd "look_at_interval" 10, mkd "is_prefix" 11, mkd "look_at_prefix" 12, mkd "interval_of" 13, mkd "prefixes_of" 14, mkd "prefix_signs" 15, mkd "joined_prefixes" 16, mkd "longest_fit" 17, mkd "told_bits" 18, mkd "within_prefix" 19, mkd "apart_by" 20, mkd "are_apart" 21, mkd "shared_within" 22, mkd "_law_draws" 24, mkd "_law_draw" 25, mkd "_law_pick" 26, mkd "_law_same" 27, mkd "_law_prefix" 28, mkd "_law_ends" 29, mkd "_law_runs" 30, mkd "_law_turned" 31, mkd "law" 32]
def bl : List Str := ["len", "isinstance", "list", "tuple", "range", "int", "str", "sorted", "max", "min", "zip", "all", "any", "bool"]
def fa : List He.Fa := (fn.map fun d => He.Fa.glo d.at_.1) ++ (bl.map He.Fa.free) ++ [.int "MOST_BITS" 20]
abbrev R : PySem.W.OpenRow := PySem.W.OpenLaw.row PySem.Challenge.rw_doorrules_k22_whole_algebra_of_prefixes
abbrev hk : PySem.W.Hook := He.hookD 4 fa fn
def ob (s : PySem.W.SharedT) : He.AlD := He.obsDG 4 fa fn (HandSHeadRun.getT s)
theorem ob_eq (s : PySem.W.SharedT) : ob s = hk.obs s.abs := He.obsDG_eq (HandSHeadRun.getT_eq s)
def names : List Str := ["DoorError", "BadPlan", "MOST_BITS", "is_whole", "twos", "size_under", "look_at_bits", "look_at_interval", "is_prefix", "look_at_prefix", "interval_of", "prefixes_of", "prefix_signs", "joined_prefixes", "longest_fit", "told_bits", "within_prefix", "apart_by", "are_apart", "shared_within", "_law_draws", "_law_draw", "_law_pick", "_law_same", "_law_prefix", "_law_ends", "_law_runs", "_law_turned"]
theorem run (w : World) : HandSHeadRun.RunEq R (PySem.W.view R.prog [32]) hk ob 6000 names w := by
  intro os
  kernel_rfl
theorem facts {P : Program} {w : World} {K : PySem.W.Frag} {h : Heap} {mg : Str → Option Value} {fL : Addr} (X : K.In h) (G : h.Ns mainGlobals mg) (hfa : mg ("law" : Str) = some (.ref fL)) (c : He.SaysD fa fn K) :
    ∃ fd : FuncData, (∀ (s : Shared) (v : Value), BindsTo s fd ⟨[v], []⟩ [("script", v)]) ∧ ∀ base : Heap, K.In base → base.Ns mainGlobals mg → FnOk P w K mg base CX0 100 fL fd ["script"] (DL.spOf K K22.F_law) := by
  obtain ⟨fd_is_whole, F_is_whole⟩ := c.def_ 0 (d := mkd "is_whole" 4) rfl
  have g_is_whole := He.glo_ok X G (c.fact 0 (f := .glo "is_whole") rfl)
  obtain ⟨fd_twos, F_twos⟩ := c.def_ 1 (d := mkd "twos" 5) rfl
  have g_twos := He.glo_ok X G (c.fact 1 (f := .glo "twos") rfl)
  obtain ⟨fd_size_under, F_size_under⟩ := c.def_ 2 (d := mkd "size_under" 8) rfl
  have g_size_under := He.glo_ok X G (c.fact 2 (f := .glo "size_under") rfl)
  obtain ⟨fd_look_at_bits, F_look_at_bits⟩ := c.def_ 3 (d := mkd "look_at_bits" 9) rfl
  have g_look_at_bits := He.glo_ok X G (c.fact 3 (f := .glo "look_at_bits") rfl)
  obtain ⟨fd_look_at_interval, F_look_at_interval⟩ := c.def_ 4 (d := mkd "look_at_interval" 10) rfl
  have g_look_at_interval := He.glo_ok X G (c.fact 4 (f := .glo "look_at_interval") rfl)
  obtain ⟨fd_is_prefix, F_is_prefix⟩ := c.def_ 5 (d := mkd "is_prefix" 11) rfl
  have g_is_prefix := He.glo_ok X G (c.fact 5 (f := .glo "is_prefix") rfl)
  obtain ⟨fd_look_at_prefix, F_look_at_prefix⟩ := c.def_ 6 (d := mkd "look_at_prefix" 12) rfl
  have g_look_at_prefix := He.glo_ok X G (c.fact 6 (f := .glo "look_at_prefix") rfl)
  obtain ⟨fd_interval_of, F_interval_of⟩ := c.def_ 7 (d := mkd "interval_of" 13) rfl
  have g_interval_of := He.glo_ok X G (c.fact 7 (f := .glo "interval_of") rfl)
  obtain ⟨fd_prefixes_of, F_prefixes_of⟩ := c.def_ 8 (d := mkd "prefixes_of" 14) rfl
  have g_prefixes_of := He.glo_ok X G (c.fact 8 (f := .glo "prefixes_of") rfl)
  obtain ⟨fd_prefix_signs, F_prefix_signs⟩ := c.def_ 9 (d := mkd "prefix_signs" 15) rfl
  have g_prefix_signs := He.glo_ok X G (c.fact 9 (f := .glo "prefix_signs") rfl)
  obtain ⟨fd_joined_prefixes, F_joined_prefixes⟩ := c.def_ 10 (d := mkd "joined_prefixes" 16) rfl
  have g_joined_prefixes := He.glo_ok X G (c.fact 10 (f := .glo "joined_prefixes") rfl)
  obtain ⟨fd_longest_fit, F_longest_fit⟩ := c.def_ 11 (d := mkd "longest_fit" 17) rfl
  have g_longest_fit := He.glo_ok X G (c.fact 11 (f := .glo "longest_fit") rfl)
  obtain ⟨fd_told_bits, F_told_bits⟩ := c.def_ 12 (d := mkd "told_bits" 18) rfl
  have g_told_bits := He.glo_ok X G (c.fact 12 (f := .glo "told_bits") rfl)
  obtain ⟨fd_within_prefix, F_within_prefix⟩ := c.def_ 13 (d := mkd "within_prefix" 19) rfl
  have g_within_prefix := He.glo_ok X G (c.fact 13 (f := .glo "within_prefix") rfl)
  obtain ⟨fd_apart_by, F_apart_by⟩ := c.def_ 14 (d := mkd "apart_by" 20) rfl
  have g_apart_by := He.glo_ok X G (c.fact 14 (f := .glo "apart_by") rfl)
  obtain ⟨fd_are_apart, F_are_apart⟩ := c.def_ 15 (d := mkd "are_apart" 21) rfl
  have g_are_apart := He.glo_ok X G (c.fact 15 (f := .glo "are_apart") rfl)
  obtain ⟨fd_shared_within, F_shared_within⟩ := c.def_ 16 (d := mkd "shared_within" 22) rfl
  have g_shared_within := He.glo_ok X G (c.fact 16 (f := .glo "shared_within") rfl)
  obtain ⟨fd_law_draws, F_law_draws⟩ := c.def_ 17 (d := mkd "_law_draws" 24) rfl
  have g_law_draws := He.glo_ok X G (c.fact 17 (f := .glo "_law_draws") rfl)
  obtain ⟨fd_law_draw, F_law_draw⟩ := c.def_ 18 (d := mkd "_law_draw" 25) rfl
  have g_law_draw := He.glo_ok X G (c.fact 18 (f := .glo "_law_draw") rfl)
  obtain ⟨fd_law_pick, F_law_pick⟩ := c.def_ 19 (d := mkd "_law_pick" 26) rfl
  have g_law_pick := He.glo_ok X G (c.fact 19 (f := .glo "_law_pick") rfl)
  obtain ⟨fd_law_same, F_law_same⟩ := c.def_ 20 (d := mkd "_law_same" 27) rfl
  have g_law_same := He.glo_ok X G (c.fact 20 (f := .glo "_law_same") rfl)
  obtain ⟨fd_law_prefix, F_law_prefix⟩ := c.def_ 21 (d := mkd "_law_prefix" 28) rfl
  have g_law_prefix := He.glo_ok X G (c.fact 21 (f := .glo "_law_prefix") rfl)
  obtain ⟨fd_law_ends, F_law_ends⟩ := c.def_ 22 (d := mkd "_law_ends" 29) rfl
  have g_law_ends := He.glo_ok X G (c.fact 22 (f := .glo "_law_ends") rfl)
  obtain ⟨fd_law_runs, F_law_runs⟩ := c.def_ 23 (d := mkd "_law_runs" 30) rfl
  have g_law_runs := He.glo_ok X G (c.fact 23 (f := .glo "_law_runs") rfl)
  obtain ⟨fd_law_turned, F_law_turned⟩ := c.def_ 24 (d := mkd "_law_turned" 31) rfl
  have g_law_turned := He.glo_ok X G (c.fact 24 (f := .glo "_law_turned") rfl)
  obtain ⟨fd_law, F_law⟩ := c.def_ 25 (d := mkd "law" 32) rfl
  have g_law := He.glo_ok X G (c.fact 25 (f := .glo "law") rfl)
  have b_len := He.free_ok X G (c.fact 26 (f := .free "len") rfl)
  have b_isinstance := He.free_ok X G (c.fact 27 (f := .free "isinstance") rfl)
  have b_list := He.free_ok X G (c.fact 28 (f := .free "list") rfl)
  have b_tuple := He.free_ok X G (c.fact 29 (f := .free "tuple") rfl)
  have b_range := He.free_ok X G (c.fact 30 (f := .free "range") rfl)
  have b_int := He.free_ok X G (c.fact 31 (f := .free "int") rfl)
  have b_str := He.free_ok X G (c.fact 32 (f := .free "str") rfl)
  have b_sorted := He.free_ok X G (c.fact 33 (f := .free "sorted") rfl)
  have b_max := He.free_ok X G (c.fact 34 (f := .free "max") rfl)
  have b_min := He.free_ok X G (c.fact 35 (f := .free "min") rfl)
  have b_zip := He.free_ok X G (c.fact 36 (f := .free "zip") rfl)
  have b_all := He.free_ok X G (c.fact 37 (f := .free "all") rfl)
  have b_any := He.free_ok X G (c.fact 38 (f := .free "any") rfl)
  have b_bool := He.free_ok X G (c.fact 39 (f := .free "bool") rfl)
  have k_MOST_BITS := He.int_ok X G (c.fact 40 (f := .int "MOST_BITS" 20) rfl)
  have e := hfa.symm.trans g_law
  cases e
  have b := FunD.bindsA (ps := ["script"]) F_law fun _ _ _ _ _ _ us hl => match us, hl with | [_], _ => rfl
  refine ⟨fd_law, fun s v => b s [v] rfl, fun base _ _ => ?_⟩
  have h_is_whole := K22.has_is_whole (P := P) (w := w) (base := base) (k := 0) F_is_whole g_is_whole b_isinstance b_int b_bool
  have h_twos := K22.has_twos (P := P) (w := w) (base := base) (k := 0) F_twos g_twos 
  have h_size_under := K22.has_size_under (P := P) (w := w) (base := base) (k := 1) F_size_under g_size_under (h_twos.mono (by decide))
  have h_look_at_bits := K22.has_look_at_bits (P := P) (w := w) (base := base) (k := 1) F_look_at_bits g_look_at_bits (h_is_whole.mono (by decide)) k_MOST_BITS
  have h_look_at_interval := K22.has_look_at_interval (P := P) (w := w) (base := base) (k := 2) F_look_at_interval g_look_at_interval (h_look_at_bits.mono (by decide)) (h_is_whole.mono (by decide)) (h_size_under.mono (by decide))
  have h_is_prefix := K22.has_is_prefix (P := P) (w := w) (base := base) (k := 2) F_is_prefix g_is_prefix (h_look_at_bits.mono (by decide)) (h_is_whole.mono (by decide)) (h_size_under.mono (by decide)) b_len b_isinstance b_tuple
  have h_look_at_prefix := K22.has_look_at_prefix (P := P) (w := w) (base := base) (k := 3) F_look_at_prefix g_look_at_prefix (h_is_prefix.mono (by decide))
  have h_interval_of := K22.has_interval_of (P := P) (w := w) (base := base) (k := 4) F_interval_of g_interval_of (h_look_at_prefix.mono (by decide)) (h_size_under.mono (by decide))
  have h_prefixes_of := K22.has_prefixes_of (P := P) (w := w) (base := base) (k := 3) F_prefixes_of g_prefixes_of (h_look_at_interval.mono (by decide)) (h_size_under.mono (by decide)) b_tuple
  have h_prefix_signs := K22.has_prefix_signs (P := P) (w := w) (base := base) (k := 4) F_prefix_signs g_prefix_signs (h_look_at_prefix.mono (by decide)) (h_size_under.mono (by decide)) b_range b_str
  have h_joined_prefixes := K22.has_joined_prefixes (P := P) (w := w) (base := base) (k := 5) F_joined_prefixes g_joined_prefixes (h_look_at_bits.mono (by decide)) (h_interval_of.mono (by decide)) (h_prefixes_of.mono (by decide)) b_len b_sorted b_max
  have h_within_prefix := K22.has_within_prefix (P := P) (w := w) (base := base) (k := 5) F_within_prefix g_within_prefix (h_interval_of.mono (by decide))
  have h_told_bits := K22.has_told_bits (P := P) (w := w) (base := base) (k := 0) F_told_bits g_told_bits 
  have h_longest_fit := K22.has_longest_fit (P := P) (w := w) (base := base) (k := 6) F_longest_fit g_longest_fit (h_look_at_interval.mono (by decide)) (h_within_prefix.mono (by decide)) ⟨1, by decide, h_told_bits⟩ b_len b_max
  have h_apart_by := K22.has_apart_by (P := P) (w := w) (base := base) (k := 4) F_apart_by g_apart_by (h_prefixes_of.mono (by decide)) b_tuple
  have h_shared_within := K22.has_shared_within (P := P) (w := w) (base := base) (k := 2) F_shared_within g_shared_within (h_size_under.mono (by decide))
  have h_are_apart := K22.has_are_apart (P := P) (w := w) (base := base) (k := 3) F_are_apart g_are_apart (h_look_at_interval.mono (by decide)) (h_shared_within.mono (by decide)) (h_is_whole.mono (by decide)) b_isinstance b_tuple b_zip b_all b_any
  have h_law_draws := K22.has_law_draws (P := P) (w := w) (base := base) (k := 0) F_law_draws g_law_draws b_list
  have h_law_draw := K22.has_law_draw (P := P) (w := w) (base := base) (k := 0) F_law_draw g_law_draw b_len b_int
  have h_law_pick := K22.has_law_pick (P := P) (w := w) (base := base) (k := 1) F_law_pick g_law_pick (h_law_draw.mono (by decide)) b_len
  have h_law_same := K22.has_law_same (P := P) (w := w) (base := base) (k := 0) F_law_same g_law_same b_len b_isinstance b_list b_tuple b_range b_int b_str b_bool
  have h_law_prefix := K22.has_law_prefix (P := P) (w := w) (base := base) (k := 1) F_law_prefix g_law_prefix (h_law_draw.mono (by decide))
  have h_law_ends := K22.has_law_ends (P := P) (w := w) (base := base) (k := 0) F_law_ends g_law_ends 
  have h_law_runs := K22.has_law_runs (P := P) (w := w) (base := base) (k := 1) F_law_runs g_law_runs (h_law_ends.mono (by decide)) b_len b_sorted b_max
  have h_law_turned := K22.has_law_turned (P := P) (w := w) (base := base) (k := 1) F_law_turned g_law_turned (h_law_draw.mono (by decide)) b_len b_list b_tuple b_range
  exact (K22.ok_law (P := P) (w := w) (base := base) (k := 60) F_law (h_law_draw.mono (by decide)) (h_law_runs.mono (by decide)) (h_prefixes_of.mono (by decide)) (h_apart_by.mono (by decide)) (h_interval_of.mono (by decide)) (h_law_same.mono (by decide)) (h_joined_prefixes.mono (by decide)) (h_longest_fit.mono (by decide)) (h_prefix_signs.mono (by decide)) (h_are_apart.mono (by decide)) (h_law_prefix.mono (by decide)) (h_law_ends.mono (by decide)) (h_law_turned.mono (by decide)) (h_is_prefix.mono (by decide)) (h_law_draws.mono (by decide)) b_len b_tuple b_range b_str b_max).mono (by decide)
end H22

/-! text Z22 -/
set_option Elab.async false
set_option linter.all false
set_option maxRecDepth 100000
set_option maxHeartbeats 0
namespace H22
open PySem PySem.Spec PyProof.Rows L2
theorem rp_ints {K : PySem.W.Frag} {H : Hp} {W : DL.AS} : ∀ ns : List Int, DL.RpAll K H W (ns.map V.int) (ns.map PyData.int)
  | [] => .nil
  | n :: ns => .cons (.int n) (rp_ints ns)
theorem promise {K : PySem.W.Frag} {H : Hp} {a : Addr} {ns : List Int} (ho : Only H) (hs : SqL K H a (ns.map V.int)) : DL.spOf K K22.F_law [.ref a] H (fun v _ => v = .bl true) fun _ _ _ => False := by
  have rp : DL.Rp K H (fun _ => False) (.ref a) (.dict [(.none, .list (ns.map .int))]) := by
    rcases hs with (h | ⟨o, h⟩) | h
    · rcases ho a with e | ⟨o, xs, e⟩
      · rw [e] at h; cases h
      · rw [e] at h; cases h
    · exact .scr (fun z => z) h (rp_ints ns)
    · exact .skl h (rp_ints ns)
  refine ⟨fun _ => False, [.val _], [], fun d _ => d = .bool true, fun _ z => z.elim, .val rp .nil, List.nodup_nil, K22.law_ok rfl, fun d outs v H' W' e _ _ _ _ _ _ r => ?_⟩
  subst e
  cases r
  rfl
end H22
open PySem PySem.W PySem.Calls PyProof.Rows
theorem PySem.Challenge.cw_doorrules_k22_whole_algebra_of_prefixes_holds : PySem.Challenge.rw_doorrules_k22_whole_algebra_of_prefixes.Holds := by
  w_on; o_law
  refine HandSHeadRun.head_any (r := OpenLaw.row PySem.Challenge.rw_doorrules_k22_whole_algebra_of_prefixes) (q := view (OpenLaw.row PySem.Challenge.rw_doorrules_k22_whole_algebra_of_prefixes).prog [32]) (H := H22.hk) (ob := H22.ob) (M := 6000) (loose := H22.names) (d := HandSHeadRun.topDef (OpenLaw.row PySem.Challenge.rw_doorrules_k22_whole_algebra_of_prefixes).prog 32) (kwd := []) H22.ob_eq
    (by kernel_rfl) (fun s => by kernel_rfl) H22.run (by kernel_rfl) (by kernel_rfl) (by kernel_rfl) (by rfl) (by first | assumption | decide +kernel) (by decide +kernel) ⟨rfl, rfl, rfl, rfl, rfl, by decide +kernel⟩ ?hw ?hc
  case hw => w_witness2
  case hc =>
    refine L2.walk_ofE (l := PySem.Challenge.rw_doorrules_k22_whole_algebra_of_prefixes) (n := 63) (k := 100) (x := "script") (CX := L2.CX0) rfl (by decide) (by kernel_rfl) ⟨rfl, by decide, by decide⟩ ?F (fun _ _ _ _ z => z)
    intro w mg fa h Y G hmg0
    obtain ⟨K, KX, c⟩ := Y
    have hmg : mg ("law" : PySem.Str) = some (.ref fa) := by
      have e : (HandSHeadRun.topDef (OpenLaw.row PySem.Challenge.rw_doorrules_k22_whole_algebra_of_prefixes).prog 32).name = ("law" : PySem.Str) := by kernel_rfl
      rw [← e]
      exact hmg0
    obtain ⟨fd, hb, hF⟩ := H22.facts (P := (PySem.Challenge.rw_doorrules_k22_whole_algebra_of_prefixes).prog) (w := w) KX G hmg c
    exact ⟨K, fd, DL.spOf K K22.F_law, KX, hb, fun H a ns hl ho hS => H22.promise ho hS, hF⟩

