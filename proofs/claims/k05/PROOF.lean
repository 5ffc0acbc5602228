import PyProof.Rows.All
import Wide.All
import OpenK.AllK
import Wide.FinOn
import HandS.ForMost
import HandS.Evl
import HandS.Exc
import HandS.TupAny
import HandS.IsInst
import HandS.SortInts
import HandS.SortRule
import HandS.Strs
import HandS.SetFor
import HandS.More
import HandS.Lambda
import HandS.CallSlots
import HandS.WordsExc
import HandS.Wide
import HandS.Conv
import HandS.Text
import HandS.Defaults
import HandS.TryOnly
import HandS.ExcOwn
import HandS.ExcInit
import HandS.ExcField
import KE.KDictPairs
import HandS.ExcIs
import KE.DatumOrd
import PySem.Challenge.RW_nightbook_k05_whole_groups_of_like_ones
set_option Elab.async false
set_option maxRecDepth 100000
set_option maxHeartbeats 1000000
set_option linter.all false
/-! DLa: data, slots, representation, frames, transitions -/
namespace DL
open PySem L2 Evl

mutual
inductive Rp (F : Hp) : V → PyData → Prop
  | non : Rp F .non .none
  | bl (b : Bool) : Rp F (.bl b) (.bool b)
  | int (i : Int) : Rp F (.int i) (.int i)
  | str (x : Str) : Rp F (.str x) (.str x)
  | lst {a : Addr} {xs : List V} {ds : List PyData} : F a = some (.lst xs) → RpAll F xs ds → Rp F (.ref a) (.list ds)
  | tup {a : Addr} {xs : List V} {ds : List PyData} : F a = some (.tup xs) → RpAll F xs ds → Rp F (.ref a) (.tuple ds)
inductive RpAll (F : Hp) : List V → List PyData → Prop
  | nil : RpAll F [] []
  | cons {v : V} {vs : List V} {d : PyData} {ds : List PyData} : Rp F v d → RpAll F vs ds → RpAll F (v :: vs) (d :: ds)
end

theorem Rp.mono {F F' : Hp} (e : Ex F F') {v : V} {d : PyData} (h : Rp F v d) : Rp F' v d :=
  Rp.rec (motive_1 := fun v d _ => Rp F' v d) (motive_2 := fun vs ds _ => RpAll F' vs ds)
    .non .bl .int .str (fun h _ ih => .lst (e _ _ h) ih) (fun h _ ih => .tup (e _ _ h) ih) .nil (fun _ _ a b => .cons a b) h
theorem RpAll.mono {F F' : Hp} (e : Ex F F') : ∀ {vs : List V} {ds : List PyData}, RpAll F vs ds → RpAll F' vs ds
  | _, _, .nil => .nil
  | _, _, .cons a b => .cons (a.mono e) (RpAll.mono e b)
theorem Rp.dp {K : PySem.W.Frag} {F : Hp} {v : V} {d : PyData} (h : Rp F v d) : Dp K F v d :=
  Rp.rec (motive_1 := fun v d _ => Dp K F v d) (motive_2 := fun vs ds _ => DpAll K F vs ds)
    .non .bl .int .str (fun h _ ih => .lst (sq_of h) ih) (fun h _ ih => .tup (st_of h) ih) .nil (fun _ _ a b => .cons a b) h
theorem RpAll.dp {K : PySem.W.Frag} {F : Hp} : ∀ {vs : List V} {ds : List PyData}, RpAll F vs ds → DpAll K F vs ds
  | _, _, .nil => .nil
  | _, _, .cons a b => .cons a.dp (RpAll.dp b)
section
variable {F : Hp}
theorem RpAll.length : ∀ {vs : List V} {ds : List PyData}, RpAll F vs ds → vs.length = ds.length
  | _, _, .nil => rfl
  | _, _, .cons _ b => congrArg (· + 1) (RpAll.length b)
theorem RpAll.get : ∀ {vs : List V} {ds : List PyData} {i : Nat} {d : PyData}, RpAll F vs ds → ds[i]? = some d → ∃ v, vs[i]? = some v ∧ Rp F v d
  | _, _, _, _, .nil, e => by simp at e
  | _, _, 0, _, .cons a _, e => by simp at e; subst e; exact ⟨_, rfl, a⟩
  | _, _, i + 1, _, .cons _ b, e => by
    obtain ⟨v, h1, h2⟩ := RpAll.get (i := i) b (by simpa using e)
    exact ⟨v, by simpa using h1, h2⟩
theorem RpAll.getV : ∀ {vs : List V} {ds : List PyData} {i : Nat} {v : V}, RpAll F vs ds → vs[i]? = some v → ∃ d, ds[i]? = some d ∧ Rp F v d
  | _, _, _, _, .nil, e => by simp at e
  | _, _, 0, _, .cons a _, e => by simp at e; subst e; exact ⟨_, rfl, a⟩
  | _, _, i + 1, _, .cons _ b, e => by
    obtain ⟨v, h1, h2⟩ := RpAll.getV (i := i) b (by simpa using e)
    exact ⟨v, by simpa using h1, h2⟩
theorem RpAll.append : ∀ {vs ws : List V} {ds es : List PyData}, RpAll F vs ds → RpAll F ws es → RpAll F (vs ++ ws) (ds ++ es)
  | _, _, _, _, .nil, h => h
  | _, _, _, _, .cons a b, h => .cons a (RpAll.append b h)
theorem RpAll.one {v : V} {d : PyData} (h : Rp F v d) : RpAll F [v] [d] := .cons h .nil
theorem RpAll.set : ∀ {vs : List V} {ds : List PyData} {v : V} {d : PyData} (i : Nat), RpAll F vs ds → Rp F v d → RpAll F (vs.set i v) (ds.set i d)
  | _, _, _, _, _, .nil, _ => .nil
  | _, _, _, _, 0, .cons _ b, h => .cons h b
  | _, _, _, _, i + 1, .cons a b, h => .cons a (RpAll.set i b h)
theorem RpAll.take : ∀ {vs : List V} {ds : List PyData} (n : Nat), RpAll F vs ds → RpAll F (vs.take n) (ds.take n)
  | _, _, 0, _ => by simpa using RpAll.nil
  | _, _, _ + 1, .nil => .nil
  | _, _, n + 1, .cons a b => .cons a (RpAll.take n b)
theorem RpAll.drop : ∀ {vs : List V} {ds : List PyData} (n : Nat), RpAll F vs ds → RpAll F (vs.drop n) (ds.drop n)
  | _, _, 0, h => h
  | _, _, _ + 1, .nil => .nil
  | _, _, n + 1, .cons _ b => RpAll.drop n b
theorem RpAll.dropLast {vs : List V} {ds : List PyData} (h : RpAll F vs ds) : RpAll F vs.dropLast ds.dropLast := by
  rw [List.dropLast_eq_take, List.dropLast_eq_take, h.length]
  exact h.take _
theorem RpAll.reverse : ∀ {vs : List V} {ds : List PyData}, RpAll F vs ds → RpAll F vs.reverse ds.reverse
  | _, _, .nil => .nil
  | _, _, .cons a b => by
    rw [List.reverse_cons, List.reverse_cons]
    exact (RpAll.reverse b).append (.one a)
theorem RpAll.eraseIdx : ∀ {vs : List V} {ds : List PyData} (i : Nat), RpAll F vs ds → RpAll F (vs.eraseIdx i) (ds.eraseIdx i)
  | _, _, _, .nil => .nil
  | _, _, 0, .cons _ b => b
  | _, _, i + 1, .cons a b => .cons a (RpAll.eraseIdx i b)
theorem RpAll.ints : ∀ {vs : List V} {ns : List Int}, RpAll F vs (ns.map .int) → vs = ns.map V.int
  | _, [], .nil => rfl
  | _, n :: ns, .cons a b => by
    cases a
    rw [RpAll.ints b]
    rfl
theorem RpAll.bls : ∀ {vs : List V} {ns : List Bool}, RpAll F vs (ns.map .bool) → vs = ns.map V.bl
  | _, [], .nil => rfl
  | _, n :: ns, .cons a b => by
    cases a
    rw [RpAll.bls b]
    rfl
theorem RpAll.strs : ∀ {vs : List V} {ns : List Str}, RpAll F vs (ns.map .str) → vs = ns.map V.str
  | _, [], .nil => rfl
  | _, n :: ns, .cons a b => by
    cases a
    rw [RpAll.strs b]
    rfl
theorem RpAll.ofInts : ∀ (ns : List Int), RpAll F (ns.map V.int) (ns.map .int)
  | [] => .nil
  | n :: ns => .cons (.int n) (RpAll.ofInts ns)
theorem RpAll.ofStrs : ∀ (ns : List Str), RpAll F (ns.map V.str) (ns.map .str)
  | [] => .nil
  | n :: ns => .cons (.str n) (RpAll.ofStrs ns)
theorem RpAll.rep {v : V} {d : PyData} (h : Rp F v d) : ∀ n, RpAll F (List.replicate n v) (List.replicate n d)
  | 0 => .nil
  | n + 1 => .cons h (RpAll.rep h n)
end

/-- all ints of a list of data -/
def asInts : List PyData → Option (List Int)
  | [] => some []
  | .int i :: ds => (asInts ds).map (i :: ·)
  | _ => none
theorem asInts_eq : ∀ {ds : List PyData} {ns : List Int}, asInts ds = some ns → ds = ns.map .int
  | [], ns, h => by simp [asInts] at h; subst h; rfl
  | .int i :: ds, ns, h => by
    simp only [asInts, Option.map_eq_some_iff] at h
    obtain ⟨ms, h1, rfl⟩ := h
    rw [asInts_eq h1]
    rfl
  | .none :: _, _, h => by simp [asInts] at h
  | .bool _ :: _, _, h => by simp [asInts] at h
  | .str _ :: _, _, h => by simp [asInts] at h
  | .list _ :: _, _, h => by simp [asInts] at h
  | .tuple _ :: _, _, h => by simp [asInts] at h
  | .dict _ :: _, _, h => by simp [asInts] at h
theorem asInts_map : ∀ ns : List Int, asInts (ns.map .int) = some ns
  | [] => rfl
  | n :: ns => by simp [asInts, asInts_map ns]
def asBls : List PyData → Option (List Bool)
  | [] => some []
  | .bool i :: ds => (asBls ds).map (i :: ·)
  | _ => none
theorem asBls_eq : ∀ {ds : List PyData} {ns : List Bool}, asBls ds = some ns → ds = ns.map .bool
  | [], ns, h => by simp [asBls] at h; subst h; rfl
  | .bool i :: ds, ns, h => by
    simp only [asBls, Option.map_eq_some_iff] at h
    obtain ⟨ms, h1, rfl⟩ := h
    rw [asBls_eq h1]
    rfl
  | .none :: _, _, h => by simp [asBls] at h
  | .int _ :: _, _, h => by simp [asBls] at h
  | .str _ :: _, _, h => by simp [asBls] at h
  | .list _ :: _, _, h => by simp [asBls] at h
  | .tuple _ :: _, _, h => by simp [asBls] at h
  | .dict _ :: _, _, h => by simp [asBls] at h
theorem asBls_map : ∀ ns : List Bool, asBls (ns.map .bool) = some ns
  | [] => rfl
  | n :: ns => by simp [asBls, asBls_map ns]
def asStrs : List PyData → Option (List Str)
  | [] => some []
  | .str i :: ds => (asStrs ds).map (i :: ·)
  | _ => none
theorem asStrs_eq : ∀ {ds : List PyData} {ns : List Str}, asStrs ds = some ns → ds = ns.map .str
  | [], ns, h => by simp [asStrs] at h; subst h; rfl
  | .str i :: ds, ns, h => by
    simp only [asStrs, Option.map_eq_some_iff] at h
    obtain ⟨ms, h1, rfl⟩ := h
    rw [asStrs_eq h1]
    rfl
  | .none :: _, _, h => by simp [asStrs] at h
  | .int _ :: _, _, h => by simp [asStrs] at h
  | .bool _ :: _, _, h => by simp [asStrs] at h
  | .list _ :: _, _, h => by simp [asStrs] at h
  | .tuple _ :: _, _, h => by simp [asStrs] at h
  | .dict _ :: _, _, h => by simp [asStrs] at h
theorem asStrs_map : ∀ ns : List Str, asStrs (ns.map .str) = some ns
  | [] => rfl
  | n :: ns => by simp [asStrs, asStrs_map ns]

/-! objects that are owned, slots -/
mutual
inductive Ob where
  | lst (ds : List PyData)
  | dic (kvs : List (Key × PyData))
  | dct (kvs : List (List Key × PyData))
  | ins (c : Nat) (fs : List (Str × Sl))
inductive Sl where
  | un
  | im (d : PyData)
  | ow (o : Ob)
  | scr (ns : List Int)
end
abbrev DEnv := List Sl

def KvAll {κ : Type} (F : Hp) : List (κ × V) → List (κ × PyData) → Prop := Paired fun p q => p.1 = q.1 ∧ Rp F p.2 q.2
theorem KvAll.mono {κ : Type} {F F' : Hp} (e : Ex F F') {a : List (κ × V)} {b : List (κ × PyData)} (h : KvAll F a b) : KvAll F' a b := Paired.mapP h fun _ _ z => ⟨z.1, z.2.mono e⟩

def isTup : HO → Bool
  | .tup _ => true
  | _ => false
mutual
inductive RO (cl : Nat → Addr) (F H : Hp) : Addr → Ob → List Addr → Prop
  | lst {p : Addr} {vs : List V} {ds : List PyData} : F p = none → H p = some (.lst vs) → RpAll F vs ds → RO cl F H p (.lst ds) [p]
  | dic {p : Addr} {kvs : List (Key × V)} {ds : List (Key × PyData)} : F p = none → H p = some (.dK kvs) → KvAll F kvs ds → RO cl F H p (.dic ds) [p]
  | dct {p : Addr} {kvs : List (List Key × V)} {ds : List (List Key × PyData)} : F p = none → H p = some (.dT kvs) → KvAll F kvs ds → RO cl F H p (.dct ds) [p]
  | ins {p dx : Addr} {c : Nat} {vfs : List (Str × V)} {fs : List (Str × Sl)} {fp : List Addr} : F p = none → H p = some (.ins (cl c) dx vfs) → RFs cl F H vfs fs fp → RO cl F H p (.ins c fs) (p :: fp)
inductive RFs (cl : Nat → Addr) (F H : Hp) : List (Str × V) → List (Str × Sl) → List Addr → Prop
  | nil : RFs cl F H [] [] []
  | im {n : Str} {v : V} {d : PyData} {vfs : List (Str × V)} {fs : List (Str × Sl)} {fp : List Addr} : Rp F v d → RFs cl F H vfs fs fp → RFs cl F H ((n, v) :: vfs) ((n, .im d) :: fs) fp
  | ow {n : Str} {a : Addr} {o : Ob} {vfs : List (Str × V)} {fs : List (Str × Sl)} {fp1 fp : List Addr} : RO cl F H a o fp1 → RFs cl F H vfs fs fp → RFs cl F H ((n, .ref a) :: vfs) ((n, .ow o) :: fs) (fp1 ++ fp)
end
inductive RSs (cl : Nat → Addr) (K : PySem.W.Frag) (F H : Hp) : St → DEnv → List Addr → Prop
  | nil : RSs cl K F H [] [] []
  | un {ov : Option V} {σ : St} {ρ : DEnv} {S : List Addr} : RSs cl K F H σ ρ S → RSs cl K F H (ov :: σ) (.un :: ρ) S
  | im {v : V} {d : PyData} {σ : St} {ρ : DEnv} {S : List Addr} : Rp F v d → RSs cl K F H σ ρ S → RSs cl K F H (some v :: σ) (.im d :: ρ) S
  | ow {a : Addr} {o : Ob} {fp S : List Addr} {σ : St} {ρ : DEnv} : RO cl F H a o fp → RSs cl K F H σ ρ S → RSs cl K F H (some (.ref a) :: σ) (.ow o :: ρ) (fp ++ S)
  | scr {a : Addr} {ns : List Int} {σ : St} {ρ : DEnv} {S : List Addr} : SqL K F a (ns.map V.int) → RSs cl K F H σ ρ S → RSs cl K F H (some (.ref a) :: σ) (.scr ns :: ρ) S

section
variable {cl : Nat → Addr} {K : PySem.W.Frag} {F F' H H' : Hp}
/-- a frame: what is owned stays as it is -/
theorem RO.frame (e : Ex F F') {a : Addr} {o : Ob} {fp : List Addr} (h : RO cl F H a o fp) : (∀ p ∈ fp, ∀ u, H p = some u → H' p = some u) → (∀ p ∈ fp, F' p = none) → RO cl F' H' a o fp :=
  RO.rec (motive_1 := fun a o fp _ => (∀ p ∈ fp, ∀ u, H p = some u → H' p = some u) → (∀ p ∈ fp, F' p = none) → RO cl F' H' a o fp)
    (motive_2 := fun vfs fs fp _ => (∀ p ∈ fp, ∀ u, H p = some u → H' p = some u) → (∀ p ∈ fp, F' p = none) → RFs cl F' H' vfs fs fp)
    (fun _ h1 h2 k f => .lst (f _ (.head _)) (k _ (.head _) _ h1) (h2.mono e)) (fun _ h1 h2 k f => .dic (f _ (.head _)) (k _ (.head _) _ h1) (h2.mono e))
    (fun _ h1 h2 k f => .dct (f _ (.head _)) (k _ (.head _) _ h1) (h2.mono e))
    (fun _ h1 _ ih k f => .ins (f _ (.head _)) (k _ (.head _) _ h1) (ih (fun p hp => k p (.tail _ hp)) fun p hp => f p (.tail _ hp)))
    (fun _ _ => .nil) (fun h1 _ ih k f => .im (h1.mono e) (ih k f))
    (fun _ _ i1 i2 k f => .ow (i1 (fun p hp => k p (List.mem_append_left _ hp)) fun p hp => f p (List.mem_append_left _ hp)) (i2 (fun p hp => k p (List.mem_append_right _ hp)) fun p hp => f p (List.mem_append_right _ hp))) h
theorem RO.mem {a : Addr} {o : Ob} {fp : List Addr} (h : RO cl F H a o fp) : a ∈ fp := by
  cases h <;> exact .head _
/-- all that is owned is there, and not frozen -/
theorem RO.own {a : Addr} {o : Ob} {fp : List Addr} (h : RO cl F H a o fp) : ∀ p ∈ fp, F p = none ∧ ∃ u, H p = some u ∧ isTup u = false :=
  RO.rec (motive_1 := fun a o fp _ => ∀ p ∈ fp, F p = none ∧ ∃ u, H p = some u ∧ isTup u = false) (motive_2 := fun vfs fs fp _ => ∀ p ∈ fp, F p = none ∧ ∃ u, H p = some u ∧ isTup u = false)
    (fun h0 h1 _ p hp => by cases List.mem_singleton.mp hp; exact ⟨h0, _, h1, rfl⟩) (fun h0 h1 _ p hp => by cases List.mem_singleton.mp hp; exact ⟨h0, _, h1, rfl⟩)
    (fun h0 h1 _ p hp => by cases List.mem_singleton.mp hp; exact ⟨h0, _, h1, rfl⟩)
    (fun h0 h1 _ ih p hp => by
      rcases List.mem_cons.mp hp with rfl | hp
      · exact ⟨h0, _, h1, rfl⟩
      · exact ih p hp)
    (fun p hp => by cases hp) (fun _ _ ih p hp => ih p hp) (fun _ _ i1 i2 p hp => (List.mem_append.mp hp).elim (i1 p) (i2 p)) h
theorem RSs.own : ∀ {σ : St} {ρ : DEnv} {S : List Addr}, RSs cl K F H σ ρ S → ∀ p ∈ S, F p = none ∧ ∃ u, H p = some u ∧ isTup u = false
  | _, _, _, .nil => fun _ h => by cases h
  | _, _, _, .un r => r.own
  | _, _, _, .im _ r => r.own
  | _, _, _, .ow h r => fun p hp => (List.mem_append.mp hp).elim (h.own p) (r.own p)
  | _, _, _, .scr _ r => r.own
theorem RSs.frame (e : Ex F F') : ∀ {σ : St} {ρ : DEnv} {S : List Addr}, RSs cl K F H σ ρ S → (∀ p ∈ S, ∀ u, H p = some u → H' p = some u) → (∀ p ∈ S, F' p = none) → RSs cl K F' H' σ ρ S
  | _, _, _, .nil, _, _ => .nil
  | _, _, _, .un r, k, f => .un (r.frame e k f)
  | _, _, _, .im h r, k, f => .im (h.mono e) (r.frame e k f)
  | _, _, _, .ow h r, k, f => .ow (h.frame e (fun p hp => k p (List.mem_append_left _ hp)) fun p hp => f p (List.mem_append_left _ hp)) (r.frame e (fun p hp => k p (List.mem_append_right _ hp)) fun p hp => f p (List.mem_append_right _ hp))
  | _, _, _, .scr h r, k, f => .scr (ex_l e h) (r.frame e k f)
theorem RSs.length : ∀ {σ : St} {ρ : DEnv} {S : List Addr}, RSs cl K F H σ ρ S → σ.length = ρ.length
  | _, _, _, .nil => rfl
  | _, _, _, .un r => congrArg (· + 1) r.length
  | _, _, _, .im _ r => congrArg (· + 1) r.length
  | _, _, _, .ow _ r => congrArg (· + 1) r.length
  | _, _, _, .scr _ r => congrArg (· + 1) r.length
theorem RSs.get_im : ∀ {σ : St} {ρ : DEnv} {S : List Addr} {i : Nat} {d : PyData}, RSs cl K F H σ ρ S → ρ[i]? = some (.im d) → ∃ v, σ[i]? = some (some v) ∧ Rp F v d
  | _, _, _, _, _, .nil, e => by simp at e
  | _, _, _, 0, _, .un _, e => by simp at e
  | _, _, _, 0, _, .im h _, e => by simp at e; subst e; exact ⟨_, rfl, h⟩
  | _, _, _, 0, _, .ow _ _, e => by simp at e
  | _, _, _, 0, _, .scr _ _, e => by simp at e
  | _, _, _, i + 1, _, .un r, e => by simpa using r.get_im (i := i) (by simpa using e)
  | _, _, _, i + 1, _, .im _ r, e => by simpa using r.get_im (i := i) (by simpa using e)
  | _, _, _, i + 1, _, .ow _ r, e => by simpa using r.get_im (i := i) (by simpa using e)
  | _, _, _, i + 1, _, .scr _ r, e => by simpa using r.get_im (i := i) (by simpa using e)
theorem RSs.get_scr : ∀ {σ : St} {ρ : DEnv} {S : List Addr} {i : Nat} {ns : List Int}, RSs cl K F H σ ρ S → ρ[i]? = some (.scr ns) → ∃ a, σ[i]? = some (some (.ref a)) ∧ SqL K F a (ns.map V.int)
  | _, _, _, _, _, .nil, e => by simp at e
  | _, _, _, 0, _, .un _, e => by simp at e
  | _, _, _, 0, _, .scr h _, e => by simp at e; subst e; exact ⟨_, rfl, h⟩
  | _, _, _, 0, _, .ow _ _, e => by simp at e
  | _, _, _, 0, _, .im _ _, e => by simp at e
  | _, _, _, i + 1, _, .un r, e => by simpa using r.get_scr (i := i) (by simpa using e)
  | _, _, _, i + 1, _, .im _ r, e => by simpa using r.get_scr (i := i) (by simpa using e)
  | _, _, _, i + 1, _, .ow _ r, e => by simpa using r.get_scr (i := i) (by simpa using e)
  | _, _, _, i + 1, _, .scr _ r, e => by simpa using r.get_scr (i := i) (by simpa using e)
/-- an owned object of a slot, taken out -/
theorem RSs.get_ow : ∀ {σ : St} {ρ : DEnv} {S : List Addr} {i : Nat} {o : Ob}, RSs cl K F H σ ρ S → ρ[i]? = some (.ow o) → ∃ a fp S0, σ[i]? = some (some (.ref a)) ∧ RO cl F H a o fp ∧ S.Perm (fp ++ S0) ∧ RSs cl K F H σ (ρ.set i .un) S0
  | _, _, _, _, _, .nil, e => by simp at e
  | _, _, _, 0, _, .un _, e => by simp at e
  | _, _, _, 0, _, .scr h _, e => by simp at e
  | _, _, _, 0, _, .ow h r, e => by simp at e; subst e; exact ⟨_, _, _, rfl, h, .refl _, .un r⟩
  | _, _, _, 0, _, .im _ _, e => by simp at e
  | _, _, _, i + 1, _, .un r, e => by
    obtain ⟨a, fp, S0, h1, h2, h3, h4⟩ := r.get_ow (i := i) (by simpa using e)
    exact ⟨a, fp, S0, by simpa using h1, h2, h3, .un h4⟩
  | _, _, _, i + 1, _, .im h r, e => by
    obtain ⟨a, fp, S0, h1, h2, h3, h4⟩ := r.get_ow (i := i) (by simpa using e)
    exact ⟨a, fp, S0, by simpa using h1, h2, h3, .im h h4⟩
  | _, _, _, i + 1, _, .ow h r, e => by
    obtain ⟨a, fp, S0, h1, h2, h3, h4⟩ := r.get_ow (i := i) (by simpa using e)
    refine ⟨a, fp, _, by simpa using h1, h2, ?_, .ow h h4⟩
    refine (List.Perm.append_left _ h3).trans ?_
    rw [← List.append_assoc, ← List.append_assoc]
    exact List.Perm.append_right _ List.perm_append_comm
  | _, _, _, i + 1, _, .scr h r, e => by
    obtain ⟨a, fp, S0, h1, h2, h3, h4⟩ := r.get_ow (i := i) (by simpa using e)
    exact ⟨a, fp, S0, by simpa using h1, h2, h3, .scr h h4⟩
/-- a slot is dropped -/
theorem RSs.drop : ∀ {σ : St} {ρ : DEnv} {S : List Addr} (i : Nat) (ov : Option V), RSs cl K F H σ ρ S → ∃ S0, RSs cl K F H (σ.set i ov) (ρ.set i .un) S0 ∧ S0.Sublist S
  | _, _, _, _, _, .nil => ⟨_, .nil, .refl _⟩
  | _, _, _, 0, _, .un r => ⟨_, .un r, .refl _⟩
  | _, _, _, 0, _, .im _ r => ⟨_, .un r, .refl _⟩
  | _, _, _, 0, _, .ow _ r => ⟨_, .un r, List.sublist_append_right _ _⟩
  | _, _, _, 0, _, .scr _ r => ⟨_, .un r, .refl _⟩
  | _, _, _, i + 1, ov, .un r => let ⟨S0, a, b⟩ := r.drop i ov; ⟨S0, .un a, b⟩
  | _, _, _, i + 1, ov, .im h r => let ⟨S0, a, b⟩ := r.drop i ov; ⟨S0, .im h a, b⟩
  | _, _, _, i + 1, ov, .ow h r => let ⟨S0, a, b⟩ := r.drop i ov; ⟨_, .ow h a, List.Sublist.append_left b _⟩
  | _, _, _, i + 1, ov, .scr h r => let ⟨S0, a, b⟩ := r.drop i ov; ⟨S0, .scr h a, b⟩
/-- data into a slot -/
theorem RSs.put_im : ∀ {σ : St} {ρ : DEnv} {S : List Addr} {v : V} {d : PyData} (i : Nat), RSs cl K F H σ ρ S → Rp F v d → ∃ S0, RSs cl K F H (σ.set i (some v)) (ρ.set i (.im d)) S0 ∧ S0.Sublist S
  | _, _, _, _, _, _, .nil, _ => ⟨_, .nil, .refl _⟩
  | _, _, _, _, _, 0, .un r, h => ⟨_, .im h r, .refl _⟩
  | _, _, _, _, _, 0, .im _ r, h => ⟨_, .im h r, .refl _⟩
  | _, _, _, _, _, 0, .ow _ r, h => ⟨_, .im h r, List.sublist_append_right _ _⟩
  | _, _, _, _, _, 0, .scr _ r, h => ⟨_, .im h r, .refl _⟩
  | _, _, _, _, _, i + 1, .un r, q => let ⟨S0, a, b⟩ := r.put_im i q; ⟨S0, .un a, b⟩
  | _, _, _, _, _, i + 1, .im h r, q => let ⟨S0, a, b⟩ := r.put_im i q; ⟨S0, .im h a, b⟩
  | _, _, _, _, _, i + 1, .ow h r, q => let ⟨S0, a, b⟩ := r.put_im i q; ⟨_, .ow h a, List.Sublist.append_left b _⟩
  | _, _, _, _, _, i + 1, .scr h r, q => let ⟨S0, a, b⟩ := r.put_im i q; ⟨S0, .scr h a, b⟩
/-- an owned object into a slot -/
theorem RSs.put_ow : ∀ {σ : St} {ρ : DEnv} {S fp : List Addr} {a : Addr} {o : Ob} (i : Nat), i < ρ.length → RSs cl K F H σ ρ S → RO cl F H a o fp → ∃ S0 S1, RSs cl K F H (σ.set i (some (.ref a))) (ρ.set i (.ow o)) S1 ∧ S1.Perm (fp ++ S0) ∧ S0.Sublist S
  | _, _, _, _, _, _, _, hl, .nil, _ => by simp at hl
  | _, _, _, _, _, _, 0, _, .un r, h => ⟨_, _, .ow h r, .refl _, .refl _⟩
  | _, _, _, _, _, _, 0, _, .im _ r, h => ⟨_, _, .ow h r, .refl _, .refl _⟩
  | _, _, _, _, _, _, 0, _, .ow _ r, h => ⟨_, _, .ow h r, .refl _, List.sublist_append_right _ _⟩
  | _, _, _, _, _, _, 0, _, .scr _ r, h => ⟨_, _, .ow h r, .refl _, .refl _⟩
  | _, _, _, _, _, _, i + 1, hl, .un r, q => let ⟨S0, S1, a, b, c⟩ := r.put_ow i (by simpa using hl) q; ⟨S0, S1, .un a, b, c⟩
  | _, _, _, _, _, _, i + 1, hl, .im h r, q => let ⟨S0, S1, a, b, c⟩ := r.put_ow i (by simpa using hl) q; ⟨S0, S1, .im h a, b, c⟩
  | _, _, _, _, _, _, i + 1, hl, .ow h r, q => by
    obtain ⟨S0, S1, a, b, c⟩ := r.put_ow i (by simpa using hl) q
    refine ⟨_, _, .ow h a, ?_, List.Sublist.append_left c _⟩
    refine (List.Perm.append_left _ b).trans ?_
    rw [← List.append_assoc, ← List.append_assoc]
    exact List.Perm.append_right _ List.perm_append_comm
  | _, _, _, _, _, _, i + 1, hl, .scr h r, q => let ⟨S0, S1, a, b, c⟩ := r.put_ow i (by simpa using hl) q; ⟨S0, S1, .scr h a, b, c⟩
end

structure SR (cl : Nat → Addr) (K : PySem.W.Frag) (F H : Hp) (σ : St) (ρ : DEnv) (S : List Addr) : Prop where
  ex : Ex F H
  rs : RSs cl K F H σ ρ S
  nd : S.Nodup
/-- from one state to a later one -/
structure Tr (F H : Hp) (S : List Addr) (F' H' : Hp) (S' : List Addr) : Prop where
  ex : Ex F F'
  keep : ∀ p o, H p = some o → p ∉ S → H' p = some o
  there : ∀ p o, H p = some o → ∃ o', H' p = some o'
  own : ∀ p o, H p = some o → isTup o = false → F p = none → p ∉ S → F' p = none
  sub : ∀ p, p ∈ S' → p ∈ S ∨ H p = none
theorem Tr.refl {F H : Hp} {S : List Addr} : Tr F H S F H S := ⟨Ex.refl _, fun _ _ h _ => h, fun _ o h => ⟨o, h⟩, fun _ _ _ _ h _ => h, fun _ h => .inl h⟩
theorem none_back {H H' : Hp} (t : ∀ p o, H p = some o → ∃ o', H' p = some o') {p : Addr} (h : H' p = none) : H p = none := by
  cases q : H p with
  | none => rfl
  | some o =>
    obtain ⟨o', e⟩ := t p o q
    rw [h] at e
    cases e
theorem Tr.trans {F0 H0 F1 H1 F2 H2 : Hp} {S0 S1 S2 : List Addr} (a : Tr F0 H0 S0 F1 H1 S1) (b : Tr F1 H1 S1 F2 H2 S2) : Tr F0 H0 S0 F2 H2 S2 where
  ex := a.ex.trans b.ex
  keep := fun p o h n => b.keep p o (a.keep p o h n) fun q => (a.sub p q).elim n fun z => by rw [z] at h; cases h
  there := fun p o h => let ⟨o1, h1⟩ := a.there p o h; b.there p o1 h1
  own := fun p o h i f n => b.own p o (a.keep p o h n) i (a.own p o h i f n) fun q => (a.sub p q).elim n fun z => by rw [z] at h; cases h
  sub := fun p h => (b.sub p h).elim (a.sub p) fun z => .inr (none_back a.there z)
theorem Tr.less {F H F' H' : Hp} {S S' S'' : List Addr} (a : Tr F H S F' H' S') (h : ∀ p, p ∈ S'' → p ∈ S') : Tr F H S F' H' S'' := ⟨a.ex, a.keep, a.there, a.own, fun p q => a.sub p (h p q)⟩
/-- new objects alone -/
structure Tn (F H F' H' : Hp) : Prop where
  exF : Ex F F'
  exH : Ex H H'
  exx : Ex F' H'
  own : ∀ p o, H p = some o → isTup o = false → F p = none → F' p = none
theorem Tn.refl {F H : Hp} (e : Ex F H) : Tn F H F H := ⟨Ex.refl _, Ex.refl _, e, fun _ _ _ _ h => h⟩
theorem Tn.trans {F0 H0 F1 H1 F2 H2 : Hp} (a : Tn F0 H0 F1 H1) (b : Tn F1 H1 F2 H2) : Tn F0 H0 F2 H2 := ⟨a.exF.trans b.exF, a.exH.trans b.exH, b.exx, fun p o h i f => b.own p o (a.exH p o h) i (a.own p o h i f)⟩
section
variable {cl : Nat → Addr} {K : PySem.W.Frag} {F H F' H' : Hp} {σ : St} {ρ : DEnv} {S : List Addr}
theorem Tn.tr (t : Tn F H F' H') : Tr F H S F' H' S := ⟨t.exF, fun p o h _ => t.exH p o h, fun p o h => ⟨o, t.exH p o h⟩, fun p o h i f _ => t.own p o h i f, fun _ h => .inl h⟩
theorem Tn.sr (t : Tn F H F' H') (r : SR cl K F H σ ρ S) : SR cl K F' H' σ ρ S :=
  ⟨t.exx, r.rs.frame t.exF (fun p _ u h => t.exH p u h) fun p hp => let ⟨a, _, b, c⟩ := r.rs.own p hp; t.own p _ b c a, r.nd⟩
/-- a new object, frozen -/
theorem Tn.new {p : Addr} {o : HO} (e : Ex F H) (h : H p = none) : Tn F H (upd F p o) (upd H p o) :=
  ⟨Ex.new (fresh_back e h), Ex.new h, fun q u z => by
    by_cases hq : q = p
    · rw [hq, upd_same] at z
      rw [hq, upd_same]
      exact z
    · rw [upd_ne hq] at z
      rw [upd_ne hq]
      exact e q u z, fun q u z _ f => by rw [upd_ne (ne_of_none z h)]; exact f⟩
/-- a new object, owned -/
theorem Tr.newO {p : Addr} {o : HO} (h : H p = none) : Tr F H S F (upd H p o) S :=
  ⟨Ex.refl _, fun q u z _ => by rw [upd_ne (ne_of_none z h)]; exact z, fun q u z => ⟨u, by rw [upd_ne (ne_of_none z h)]; exact z⟩, fun _ _ _ _ f _ => f, fun _ z => .inl z⟩
theorem SR.newO {p : Addr} {o : HO} (r : SR cl K F H σ ρ S) (h : H p = none) : SR cl K F (upd H p o) σ ρ S :=
  ⟨r.ex.trans (Ex.new h), r.rs.frame (Ex.refl _) (fun q _ u z => by rw [upd_ne (ne_of_none z h)]; exact z) fun q hq => (r.rs.own q hq).1, r.nd⟩
/-- freezing an object that no slot owns -/
theorem SR.freeze {p : Addr} {o : HO} (r : SR cl K F H σ ρ S) (hp : H p = some o) (hF : F p = none) (hS : p ∉ S) : SR cl K (upd F p o) H σ ρ S :=
  ⟨fun q u z => by
    by_cases hq : q = p
    · rw [hq, upd_same] at z
      rw [hq, hp]
      exact z
    · rw [upd_ne hq] at z
      exact r.ex q u z, r.rs.frame (Ex.new hF) (fun _ _ _ z => z) fun q hq => by
        rw [upd_ne (fun (z : q = p) => hS (z ▸ hq))]
        exact (r.rs.own q hq).1, r.nd⟩
theorem Tr.freeze {F0 H0 : Hp} {S0 : List Addr} {p : Addr} {o : HO} (t : Tr F0 H0 S0 F H S) (hF : F p = none) (h : p ∈ S0 ∨ H0 p = none) : Tr F0 H0 S0 (upd F p o) H S :=
  ⟨t.ex.trans (Ex.new hF), t.keep, t.there, fun q u z i f n => by
    have hq : q ≠ p := fun e => by
      subst e
      rcases h with h | h
      · exact n h
      · rw [h] at z
        cases z
    rw [upd_ne hq]
    exact t.own q u z i f n, t.sub⟩
end
/-- a tuple that stands may be frozen at any time -/
theorem Tn.tup {cl : Nat → Addr} {F H : Hp} {p : Addr} {xs : List V} (e : Ex F H) (hp : H p = some (.tup xs)) : ∃ F', Tn F H F' H ∧ F' p = some (.tup xs) := by
  cases h : F p with
  | some o =>
    have := e p o h
    rw [hp] at this
    cases this
    exact ⟨F, Tn.refl e, h⟩
  | none =>
    refine ⟨upd F p (.tup xs), ⟨Ex.new h, Ex.refl _, fun q u z => ?_, fun q u z i f => ?_⟩, upd_same⟩
    · by_cases hq : q = p
      · rw [hq, upd_same] at z
        rw [hq, hp]
        exact z
      · rw [upd_ne hq] at z
        exact e q u z
    · have hq : q ≠ p := fun w => by
        subst w
        rw [hp] at z
        cases z
        cases i
      rw [upd_ne hq]
      exact f
theorem nodup_perm_app {a b c : List Addr} (h : a.Perm (b ++ c)) (n : a.Nodup) : (b ++ c).Nodup := h.nodup_iff.mp n
end DL

set_option Elab.async false
set_option linter.all false
set_option maxRecDepth 100000
set_option maxHeartbeats 1000000
/-! DLb: denotations, soundness of expressions, tests, calls -/
namespace DL
open PySem L2 Evl

inductive Val where
  | im (d : PyData)
  | at (i : Nat)
  | nw (o : Ob)
abbrev DI := DEnv → Option (PyData × DEnv)
abbrev DE := DEnv → Option (Val × DEnv)
abbrev DT := DEnv → Option (Bool × DEnv)
abbrev DA := DEnv → Option (List PyData × DEnv)
abbrev DAr := DEnv → Option (List Val × DEnv)
abbrev DO := DEnv → Option (Option Int × DEnv)

/-- what v is as data now: frozen, or an owned list -/
def VW (F H : Hp) (v : V) (d : PyData) : Prop := Rp F v d ∨ ∃ p vs ds, v = .ref p ∧ d = .list ds ∧ F p = none ∧ H p = some (.lst vs) ∧ RpAll F vs ds
theorem VW.lst {F H : Hp} {v : V} {ds : List PyData} (e : Ex F H) (h : VW F H v (.list ds)) : ∃ p vs, v = .ref p ∧ H p = some (.lst vs) ∧ RpAll F vs ds := by
  rcases h with h | ⟨p, vs, es, rfl, q, _, h1, h2⟩
  · cases h with
    | lst h1 h2 => exact ⟨_, _, rfl, e _ _ h1, h2⟩
  · cases q
    exact ⟨p, vs, rfl, h1, h2⟩
theorem VW.tup {F H : Hp} {v : V} {ds : List PyData} (e : Ex F H) (h : VW F H v (.tuple ds)) : ∃ p vs, v = .ref p ∧ H p = some (.tup vs) ∧ RpAll F vs ds := by
  rcases h with h | ⟨p, vs, es, rfl, q, _, h1, h2⟩
  · cases h with
    | tup h1 h2 => exact ⟨_, _, rfl, e _ _ h1, h2⟩
  · cases q
theorem VW.int {F H : Hp} {v : V} {i : Int} (h : VW F H v (.int i)) : v = .int i := by
  rcases h with h | ⟨p, vs, es, rfl, q, _⟩
  · cases h
    rfl
  · cases q
theorem VW.bl {F H : Hp} {v : V} {i : Bool} (h : VW F H v (.bool i)) : v = .bl i := by
  rcases h with h | ⟨p, vs, es, rfl, q, _⟩
  · cases h
    rfl
  · cases q
theorem VW.str {F H : Hp} {v : V} {i : Str} (h : VW F H v (.str i)) : v = .str i := by
  rcases h with h | ⟨p, vs, es, rfl, q, _⟩
  · cases h
    rfl
  · cases q
theorem VW.non {F H : Hp} {v : V} (h : VW F H v .none) : v = .non := by
  rcases h with h | ⟨p, vs, es, rfl, q, _⟩
  · cases h
    rfl
  · cases q
theorem VW.dp {K : PySem.W.Frag} {F H : Hp} {v : V} {d : PyData} (e : Ex F H) (h : VW F H v d) : Dp K H v d := by
  rcases h with h | ⟨p, vs, es, rfl, rfl, _, h1, h2⟩
  · exact (h.mono e).dp
  · exact .lst (sq_of h1) (h2.mono e).dp

/-- what a value is that an expression hands on -/
def RV (cl : Nat → Addr) (F' H' : Hp) (σ : L2.St) (S' : List Addr) (H0 : Hp) (S0 : List Addr) (v : V) : Val → Prop
  | .im d => Rp F' v d
  | .at i => σ[i]? = some (some v)
  | .nw o => ∃ p fp, v = .ref p ∧ RO cl F' H' p o fp ∧ (fp ++ S').Nodup ∧ ∀ q ∈ fp, q ∈ S0 ∨ H0 q = none
def RA (F' : Hp) (σ : L2.St) : List V → List Val → Prop
  | [], [] => True
  | v :: vs, .im d :: ds => Rp F' v d ∧ RA F' σ vs ds
  | v :: vs, .at i :: ds => σ[i]? = some (some v) ∧ RA F' σ vs ds
  | _, _ => False
theorem RA.mono {F F' : Hp} (e : Ex F F') {σ : L2.St} : ∀ {vs : List V} {ds : List Val}, RA F σ vs ds → RA F' σ vs ds
  | [], [], h => trivial
  | v :: vs, .im d :: ds, h => ⟨h.1.mono e, RA.mono e h.2⟩
  | v :: vs, .at i :: ds, h => ⟨h.1, RA.mono e h.2⟩
  | [], .im _ :: _, h => h.elim
  | [], .at _ :: _, h => h.elim
  | [], .nw _ :: _, h => h.elim
  | _ :: _, [], h => h.elim
  | _ :: _, .nw _ :: _, h => h.elim

section
variable (cl : Nat → Addr) (K : PySem.W.Frag)
def SdI (te : TE) (d : DI) : Prop := ∀ F H σ ρ S, SR cl K F H σ ρ S → ∀ x ρ', d ρ = some (x, ρ') → ∀ Q : VK, (∀ v F' H' S', Tr F H S F' H' S' → SR cl K F' H' σ ρ' S' → Rp F' v x → Q v H') → te σ H Q
def SdV (te : TE) (d : DI) : Prop := ∀ F H σ ρ S, SR cl K F H σ ρ S → ∀ x ρ', d ρ = some (x, ρ') → ∀ Q : VK, (∀ v F' H' S', Tr F H S F' H' S' → SR cl K F' H' σ ρ' S' → VW F' H' v x → Q v H') → te σ H Q
def SdE (te : TE) (d : DE) : Prop := ∀ F H σ ρ S, SR cl K F H σ ρ S → ∀ x ρ', d ρ = some (x, ρ') → ∀ Q : VK, (∀ v F' H' S', Tr F H S F' H' S' → SR cl K F' H' σ ρ' S' → RV cl F' H' σ S' H S v x → Q v H') → te σ H Q
def SdT (te : TT) (d : DT) : Prop := ∀ F H σ ρ S, SR cl K F H σ ρ S → ∀ x ρ', d ρ = some (x, ρ') → ∀ Q : Bool → Hp → Prop, (∀ F' H' S', Tr F H S F' H' S' → SR cl K F' H' σ ρ' S' → Q x H') → te σ H Q
def SdA (te : TA) (d : DA) : Prop := ∀ F H σ ρ S, SR cl K F H σ ρ S → ∀ x ρ', d ρ = some (x, ρ') → ∀ Q : List V → Hp → Prop, (∀ vs F' H' S', Tr F H S F' H' S' → SR cl K F' H' σ ρ' S' → RpAll F' vs x → Q vs H') → te σ H Q
def SdAr (te : TA) (d : DAr) : Prop := ∀ F H σ ρ S, SR cl K F H σ ρ S → ∀ x ρ', d ρ = some (x, ρ') → ∀ Q : List V → Hp → Prop, (∀ vs F' H' S', Tr F H S F' H' S' → SR cl K F' H' σ ρ' S' → RA F' σ vs x → Q vs H') → te σ H Q
def SdO (te : TO) (d : DO) : Prop := ∀ F H σ ρ S, SR cl K F H σ ρ S → ∀ x ρ', d ρ = some (x, ρ') → ∀ Q : Option Int → Hp → Prop, (∀ F' H' S', Tr F H S F' H' S' → SR cl K F' H' σ ρ' S' → Q x H') → te σ H Q
end

/-! operations on data: two-place, one-place, a call -/
def RD2 (r : R2) (f : PyData → PyData → Option PyData) : Prop := ∀ F H, Ex F H → ∀ x y dx dy dz, VW F H x dx → VW F H y dy → f dx dy = some dz → ∀ Q : VK, (∀ v F' H', Tn F H F' H' → Rp F' v dz → Q v H') → r x y H Q
def RD1 (r : V → Hp → VK → Prop) (f : PyData → Option PyData) : Prop := ∀ F H, Ex F H → ∀ x dx dz, VW F H x dx → f dx = some dz → ∀ Q : VK, (∀ v F' H', Tn F H F' H' → Rp F' v dz → Q v H') → r x H Q
def RC1 (r : List V → Hp → VK → Prop) (f : PyData → Option PyData) : Prop := ∀ F H, Ex F H → ∀ x dx dz, VW F H x dx → f dx = some dz → ∀ Q : VK, (∀ v F' H', Tn F H F' H' → Rp F' v dz → Q v H') → r [x] H Q
def RC2 (r : List V → Hp → VK → Prop) (f : PyData → PyData → Option PyData) : Prop := ∀ F H, Ex F H → ∀ x y dx dy dz, VW F H x dx → VW F H y dy → f dx dy = some dz → ∀ Q : VK, (∀ v F' H', Tn F H F' H' → Rp F' v dz → Q v H') → r [x, y] H Q
/-- a new list from a view (owned by nobody yet) -/
def RCn (r : List V → Hp → VK → Prop) (f : PyData → Option (List PyData)) : Prop := ∀ F H, Ex F H → ∀ x dx ds, VW F H x dx → f dx = some ds → ∀ Q : VK, (∀ p vs, H p = none → RpAll F vs ds → Q (.ref p) (upd H p (.lst vs))) → r [x] H Q

/-! the combinators -/
def view : Option Sl → Option PyData
  | some (.im d) => some d
  | some (.ow (.lst ds)) => some (.list ds)
  | _ => none
def dVar (i : Nat) : DI := fun ρ => match ρ[i]? with
  | some (.im d) => some (d, ρ)
  | _ => none
def dVw (i : Nat) : DI := fun ρ => (view ρ[i]?).map (·, ρ)
/-- an owned list is frozen where it stands -/
def dFz (i : Nat) : DI := fun ρ => match ρ[i]? with
  | some (.im d) => some (d, ρ)
  | some (.ow (.lst ds)) => some (.list ds, ρ.set i (.im (.list ds)))
  | _ => none
def dC (d : PyData) : DI := fun ρ => some (d, ρ)
def asIm : Val → Option PyData
  | .im d => some d
  | .nw (.lst ds) => some (.list ds)
  | _ => none
def dIm (e : DE) : DI := fun ρ => (e ρ).bind fun r => (asIm r.1).map (·, r.2)
def dEx (e : DI) : DE := fun ρ => (e ρ).map fun r => (.im r.1, r.2)
def dAt (i : Nat) : DE := fun ρ => match ρ[i]? with
  | some (.ow _) => some (.at i, ρ)
  | some (.scr _) => some (.at i, ρ)
  | _ => none
def dOp (f : PyData → PyData → Option PyData) (a b : DI) : DI := fun ρ => (a ρ).bind fun r => (b r.2).bind fun s => (f r.1 s.1).map (·, s.2)
def dOpN (f : PyData → PyData → Option PyData) (i : Nat) (b : DI) : DI := fun ρ => (view ρ[i]?).bind fun _ => (b ρ).bind fun s => (view s.2[i]?).bind fun x => (f x s.1).map (·, s.2)
def dUn (f : PyData → Option PyData) (a : DI) : DI := fun ρ => (a ρ).bind fun r => (f r.1).map (·, r.2)
def dNil : DA := fun ρ => some ([], ρ)
def dCons (a : DI) (b : DA) : DA := fun ρ => (a ρ).bind fun r => (b r.2).map fun s => (r.1 :: s.1, s.2)
def dNilR : DAr := fun ρ => some ([], ρ)
def dConsR (a : DE) (b : DAr) : DAr := fun ρ => (a ρ).bind fun r => match r.1 with
  | .nw (.lst ds) => (b r.2).map fun s => (.im (.list ds) :: s.1, s.2)
  | .nw _ => none
  | v => (b r.2).map fun s => (v :: s.1, s.2)
def dTup (a : DA) : DI := fun ρ => (a ρ).bind fun r => if r.1.length ≤ sizeLine then some (.tuple r.1, r.2) else none
def dLst (a : DA) : DE := fun ρ => (a ρ).bind fun r => if r.1.length ≤ sizeLine then some (.nw (.lst r.1), r.2) else none
def toB : PyData → Option Bool
  | .bool b => some b
  | _ => none
def toI : PyData → Option Int
  | .int i => some i
  | _ => none
def dTest (a : DI) : DT := fun ρ => (a ρ).bind fun r => (toB r.1).map (·, r.2)
def dAnd (a b : DT) : DT := fun ρ => (a ρ).bind fun r => if r.1 = true then b r.2 else some (false, r.2)
def dOr (a b : DT) : DT := fun ρ => (a ρ).bind fun r => if r.1 = true then some (true, r.2) else b r.2
def dNot (a : DT) : DT := fun ρ => (a ρ).map fun r => (!r.1, r.2)
def dAndV (a b : DI) : DI := fun ρ => (a ρ).bind fun r => (toB r.1).bind fun c => if c = true then b r.2 else some (.bool false, r.2)
def dOrV (a b : DI) : DI := fun ρ => (a ρ).bind fun r => (toB r.1).bind fun c => if c = true then some (.bool true, r.2) else b r.2
def dNotV (a : DI) : DI := fun ρ => (a ρ).bind fun r => (toB r.1).map fun c => (.bool (!c), r.2)
def dIf (c : DT) (a b : DI) : DI := fun ρ => (c ρ).bind fun r => if r.1 = true then a r.2 else b r.2
def dChain (f g : PyData → PyData → Option PyData) (a b c : DI) : DI := fun ρ => (a ρ).bind fun r => (b r.2).bind fun s => (f r.1 s.1).bind fun z => (toB z).bind fun k =>
  if k = true then (c s.2).bind fun t => (g s.1 t.1).map (·, t.2) else some (.bool false, s.2)
def dChain3 (f g h : PyData → PyData → Option PyData) (a b c e : DI) : DI := fun ρ => (a ρ).bind fun r => (b r.2).bind fun s => (f r.1 s.1).bind fun z => (toB z).bind fun k =>
  if k = true then (c s.2).bind fun t => (g s.1 t.1).bind fun z2 => (toB z2).bind fun k2 => if k2 = true then (e t.2).bind fun w => (h t.1 w.1).map (·, w.2) else some (.bool false, t.2) else some (.bool false, s.2)
def dNoPart : DO := fun ρ => some (none, ρ)
def dPart (a : DI) : DO := fun ρ => (a ρ).bind fun r => (toI r.1).map fun i => (some i, r.2)

section
variable {cl : Nat → Addr} {K : PySem.W.Frag}
theorem view_vw {F H : Hp} {σ : L2.St} {ρ : DEnv} {S : List Addr} {i : Nat} {d : PyData} (r : SR cl K F H σ ρ S) (h : view ρ[i]? = some d) : ∃ v, σ[i]? = some (some v) ∧ VW F H v d := by
  cases e : ρ[i]? with
  | none => rw [e] at h; simp [view] at h
  | some s =>
    rw [e] at h
    cases s with
    | un => simp [view] at h
    | scr ns => simp [view] at h
    | im d' =>
      simp [view] at h
      subst h
      obtain ⟨v, h1, h2⟩ := r.rs.get_im e
      exact ⟨v, h1, .inl h2⟩
    | ow o =>
      cases o with
      | lst ds =>
        simp [view] at h
        subst h
        obtain ⟨a, fp, S0, h1, h2, _⟩ := r.rs.get_ow e
        cases h2 with
        | lst q1 q2 q3 => exact ⟨_, h1, .inr ⟨a, _, ds, rfl, rfl, q1, q2, q3⟩⟩
      | dic kvs => simp [view] at h
      | dct kvs => simp [view] at h
      | ins c fs => simp [view] at h
theorem sd_var (i : Nat) : SdI cl K (tVar i) (dVar i) := fun F H σ ρ S r x ρ' h Q q => by
  unfold dVar at h
  split at h
  · next d e =>
    cases h
    obtain ⟨v, h1, h2⟩ := r.rs.get_im e
    exact ⟨v, h1, q v F H S Tr.refl r h2⟩
  · cases h
theorem sv_vw (i : Nat) : SdV cl K (tVar i) (dVw i) := fun F H σ ρ S r x ρ' h Q q => by
  simp only [dVw, Option.map_eq_some_iff] at h
  obtain ⟨d, h, e⟩ := h
  cases e
  obtain ⟨v, h1, h2⟩ := view_vw r h
  exact ⟨v, h1, q v F H S Tr.refl r h2⟩
theorem sv_of {te : TE} {d : DI} (h : SdI cl K te d) : SdV cl K te d := fun F H σ ρ S r x ρ' e Q q => h F H σ ρ S r x ρ' e Q fun v F' H' S' t r' hv => q v F' H' S' t r' (.inl hv)
theorem set_self {α : Type} : ∀ {l : List α} {i : Nat} {a : α}, l[i]? = some a → l.set i a = l
  | [], _, _, _ => rfl
  | _ :: _, 0, _, h => by simp at h; subst h; rfl
  | _ :: l, i + 1, _, h => by simp at h; rw [List.set_cons_succ, set_self h]
theorem mem_of_perm {a b c : List Addr} (h : a.Perm (b ++ c)) {p : Addr} (hp : p ∈ c) : p ∈ a := h.mem_iff.mpr (List.mem_append_right _ hp)
theorem sd_fz (i : Nat) : SdI cl K (tVar i) (dFz i) := fun F H σ ρ S r x ρ' h Q q => by
  unfold dFz at h
  split at h
  · next d e =>
    cases h
    obtain ⟨v, h1, h2⟩ := r.rs.get_im e
    exact ⟨v, h1, q v F H S Tr.refl r h2⟩
  · next ds e =>
    cases h
    obtain ⟨a, fp, S0, h1, h2, h3, h4⟩ := r.rs.get_ow e
    have hfp : fp = [a] := by cases h2; rfl
    obtain ⟨vs, q1, q2, q3⟩ : ∃ vs, F a = none ∧ H a = some (.lst vs) ∧ RpAll F vs ds := by
      cases h2 with
      | lst q1 q2 q3 => exact ⟨_, q1, q2, q3⟩
    subst hfp
    have nd := nodup_perm_app h3 r.nd
    have haS : a ∉ S0 := (List.nodup_cons.mp nd).1
    have haM : a ∈ S := h3.mem_iff.mpr (List.mem_append_left _ (.head _))
    have r0 : SR cl K F H σ (ρ.set i .un) S0 := ⟨r.ex, h4, (List.nodup_cons.mp nd).2⟩
    have r1 := r0.freeze q2 q1 haS
    have t1 : Tr F H S (upd F a (.lst vs)) H S0 := (Tr.refl.less fun p hp => mem_of_perm h3 hp).freeze q1 (.inl haM)
    have hv : Rp (upd F a (.lst vs)) (.ref a) (.list ds) := .lst upd_same (q3.mono (Ex.new q1))
    obtain ⟨S2, r2, hs⟩ := r1.rs.put_im (v := .ref a) (d := .list ds) i hv
    rw [set_self h1, List.set_set] at r2
    exact ⟨.ref a, h1, q _ _ _ S2 (t1.less fun p hp => hs.subset hp) ⟨r1.ex, r2, r1.nd.sublist hs⟩ hv⟩
  · cases h
theorem sd_at (i : Nat) : SdE cl K (tVar i) (dAt i) := fun F H σ ρ S r x ρ' h Q q => by
  unfold dAt at h
  split at h
  · next o e =>
    cases h
    obtain ⟨a, fp, S0, h1, _⟩ := r.rs.get_ow e
    exact ⟨_, h1, q _ F H S Tr.refl r h1⟩
  · next ns e =>
    cases h
    obtain ⟨a, h1, _⟩ := r.rs.get_scr e
    exact ⟨_, h1, q _ F H S Tr.refl r h1⟩
  · cases h
theorem sd_c {v : V} {d : PyData} (hv : ∀ F, Rp F v d) : SdI cl K (tC v) (dC d) := fun F H σ ρ S r x ρ' h Q q => by
  cases h
  exact q v F H S Tr.refl r (hv F)
theorem sd_int (i : Int) : SdI cl K (tC (.int i)) (dC (.int i)) := sd_c fun _ => .int i
theorem sd_bl (i : Bool) : SdI cl K (tC (.bl i)) (dC (.bool i)) := sd_c fun _ => .bl i
theorem sd_str (i : Str) : SdI cl K (tC (.str i)) (dC (.str i)) := sd_c fun _ => .str i
theorem sd_non : SdI cl K (tC .non) (dC .none) := sd_c fun _ => .non
/-- a value that is new is frozen -/
theorem sd_im {te : TE} {e : DE} (h : SdE cl K te e) : SdI cl K te (dIm e) := fun F H σ ρ S r x ρ' he Q q => by
  simp only [dIm, Option.bind_eq_some_iff, Option.map_eq_some_iff] at he
  obtain ⟨⟨v0, ρ1⟩, h1, d, h2, h3⟩ := he
  cases h3
  refine h F H σ ρ S r _ _ h1 Q fun v F' H' S' t r' hv => ?_
  cases v0 with
  | im d0 => cases h2; exact q v F' H' S' t r' hv
  | «at» i => cases h2
  | nw o =>
    cases o with
    | lst ds =>
      cases h2
      obtain ⟨p, fp, rfl, ho, nd, hf⟩ := hv
      cases ho with
      | lst q1 q2 q3 =>
        have nS : p ∉ S' := (List.nodup_cons.mp nd).1
        exact q _ _ _ _ (t.freeze q1 (hf p (.head _))) (r'.freeze q2 q1 nS) (.lst upd_same (q3.mono (Ex.new q1)))
    | dic kvs => cases h2
    | dct kvs => cases h2
    | ins c fs => cases h2
theorem sd_ex {te : TE} {e : DI} (h : SdI cl K te e) : SdE cl K te (dEx e) := fun F H σ ρ S r x ρ' he Q q => by
  simp only [dEx, Option.map_eq_some_iff] at he
  obtain ⟨⟨v0, ρ1⟩, h1, h3⟩ := he
  cases h3
  exact h F H σ ρ S r _ _ h1 Q fun v F' H' S' t r' hv => q v F' H' S' t r' hv
theorem Tr.then {F H F' H' F2 H2 : Hp} {S S' : List Addr} (a : Tr F H S F' H' S') (b : Tn F' H' F2 H2) : Tr F H S F2 H2 S' := a.trans b.tr
theorem sd_op {r : R2} {f : PyData → PyData → Option PyData} {ta tb : TE} {a b : DI} (hr : RD2 r f) (ha : SdI cl K ta a) (hb : SdV cl K tb b) : SdI cl K (tOp r ta tb) (dOp f a b) := fun F H σ ρ S s x ρ' h Q q => by
  simp only [dOp, Option.bind_eq_some_iff, Option.map_eq_some_iff] at h
  obtain ⟨⟨x1, ρ1⟩, h1, ⟨x2, ρ2⟩, h2, z, h3, e⟩ := h
  cases e
  refine ha F H σ ρ S s _ _ h1 _ fun v F1 H1 S1 t1 s1 r1 => ?_
  refine hb F1 H1 σ _ S1 s1 _ _ h2 _ fun u F2 H2 S2 t2 s2 r2 => ?_
  exact hr F2 H2 s2.ex _ _ _ _ _ (.inl (r1.mono t2.ex)) r2 h3 Q fun y F3 H3 t3 r3 => q y F3 H3 S2 ((t1.trans t2).then t3) (t3.sr s2) r3
theorem sd_opN {r : R2} {f : PyData → PyData → Option PyData} {tb : TE} {i : Nat} {b : DI} (hr : RD2 r f) (hb : SdV cl K tb b) : SdI cl K (tOp r (tVar i) tb) (dOpN f i b) := fun F H σ ρ S s x ρ' h Q q => by
  simp only [dOpN, Option.bind_eq_some_iff, Option.map_eq_some_iff] at h
  obtain ⟨x0, h0, ⟨x2, ρ2⟩, h2, x1, h1, z, h3, e⟩ := h
  cases e
  obtain ⟨v, hv, _⟩ := view_vw s h0
  refine ⟨v, hv, hb F H σ ρ S s _ _ h2 _ fun u F2 H2 S2 t2 s2 r2 => ?_⟩
  obtain ⟨v', hv', r1⟩ := view_vw s2 h1
  rw [hv] at hv'
  cases hv'
  exact hr F2 H2 s2.ex _ _ _ _ _ r1 r2 h3 Q fun y F3 H3 t3 r3 => q y F3 H3 S2 (t2.then t3) (t3.sr s2) r3
theorem sd_un {r : V → Hp → VK → Prop} {f : PyData → Option PyData} {ta : TE} {a : DI} (hr : RD1 r f) (ha : SdV cl K ta a) : SdI cl K (tUn r ta) (dUn f a) := fun F H σ ρ S s x ρ' h Q q => by
  simp only [dUn, Option.bind_eq_some_iff, Option.map_eq_some_iff] at h
  obtain ⟨⟨x1, ρ1⟩, h1, z, h3, e⟩ := h
  cases e
  refine ha F H σ ρ S s _ _ h1 _ fun v F1 H1 S1 t1 s1 r1 => ?_
  exact hr F1 H1 s1.ex _ _ _ r1 h3 Q fun y F3 H3 t3 r3 => q y F3 H3 S1 (t1.then t3) (t3.sr s1) r3
theorem sd_cb1 {r : List V → Hp → VK → Prop} {f : PyData → Option PyData} {ta : TE} {a : DI} (hr : RC1 r f) (ha : SdV cl K ta a) : SdI cl K (tCB r (tCons ta tNil)) (dUn f a) := fun F H σ ρ S s x ρ' h Q q => by
  simp only [dUn, Option.bind_eq_some_iff, Option.map_eq_some_iff] at h
  obtain ⟨⟨x1, ρ1⟩, h1, z, h3, e⟩ := h
  cases e
  refine ha F H σ ρ S s _ _ h1 _ fun v F1 H1 S1 t1 s1 r1 => ?_
  exact hr F1 H1 s1.ex _ _ _ r1 h3 Q fun y F3 H3 t3 r3 => q y F3 H3 S1 (t1.then t3) (t3.sr s1) r3
theorem sd_cb2 {r : List V → Hp → VK → Prop} {f : PyData → PyData → Option PyData} {ta tb : TE} {a b : DI} (hr : RC2 r f) (ha : SdI cl K ta a) (hb : SdV cl K tb b) : SdI cl K (tCB r (tCons ta (tCons tb tNil))) (dOp f a b) := fun F H σ ρ S s x ρ' h Q q => by
  simp only [dOp, Option.bind_eq_some_iff, Option.map_eq_some_iff] at h
  obtain ⟨⟨x1, ρ1⟩, h1, ⟨x2, ρ2⟩, h2, z, h3, e⟩ := h
  cases e
  refine ha F H σ ρ S s _ _ h1 _ fun v F1 H1 S1 t1 s1 r1 => ?_
  refine hb F1 H1 σ _ S1 s1 _ _ h2 _ fun u F2 H2 S2 t2 s2 r2 => ?_
  exact hr F2 H2 s2.ex _ _ _ _ _ (.inl (r1.mono t2.ex)) r2 h3 Q fun y F3 H3 t3 r3 => q y F3 H3 S2 ((t1.trans t2).then t3) (t3.sr s2) r3
theorem sa_nil : SdA cl K tNil dNil := fun F H σ ρ S s x ρ' h Q q => by
  cases h
  exact q [] F H S Tr.refl s .nil
theorem sa_cons {ta : TE} {tb : TA} {a : DI} {b : DA} (ha : SdI cl K ta a) (hb : SdA cl K tb b) : SdA cl K (tCons ta tb) (dCons a b) := fun F H σ ρ S s x ρ' h Q q => by
  simp only [dCons, Option.bind_eq_some_iff, Option.map_eq_some_iff] at h
  obtain ⟨⟨x1, ρ1⟩, h1, ⟨x2, ρ2⟩, h2, e⟩ := h
  cases e
  refine ha F H σ ρ S s _ _ h1 _ fun v F1 H1 S1 t1 s1 r1 => ?_
  exact hb F1 H1 σ _ S1 s1 _ _ h2 _ fun us F2 H2 S2 t2 s2 r2 => q _ F2 H2 S2 (t1.trans t2) s2 (.cons (r1.mono t2.ex) r2)
theorem sr_nil : SdAr cl K tNil dNilR := fun F H σ ρ S s x ρ' h Q q => by
  cases h
  exact q [] F H S Tr.refl s trivial
theorem sr_cons {ta : TE} {tb : TA} {a : DE} {b : DAr} (ha : SdE cl K ta a) (hb : SdAr cl K tb b) : SdAr cl K (tCons ta tb) (dConsR a b) := fun F H σ ρ S s x ρ' h Q q => by
  simp only [dConsR, Option.bind_eq_some_iff] at h
  obtain ⟨⟨x1, ρ1⟩, h1, h2⟩ := h
  refine ha F H σ ρ S s _ _ h1 _ fun v F1 H1 S1 t1 s1 r1 => ?_
  cases x1 with
  | im d =>
    simp only [Option.map_eq_some_iff] at h2
    obtain ⟨⟨x2, ρ2⟩, h2, e⟩ := h2
    cases e
    exact hb F1 H1 σ _ S1 s1 _ _ h2 _ fun us F2 H2 S2 t2 s2 r2 => q _ F2 H2 S2 (t1.trans t2) s2 ⟨Rp.mono t2.ex r1, r2⟩
  | «at» i =>
    simp only [Option.map_eq_some_iff] at h2
    obtain ⟨⟨x2, ρ2⟩, h2, e⟩ := h2
    cases e
    exact hb F1 H1 σ _ S1 s1 _ _ h2 _ fun us F2 H2 S2 t2 s2 r2 => q _ F2 H2 S2 (t1.trans t2) s2 ⟨r1, r2⟩
  | nw o =>
    cases o with
    | lst ds =>
      simp only [Option.map_eq_some_iff] at h2
      obtain ⟨⟨x2, ρ2⟩, h2, e⟩ := h2
      cases e
      obtain ⟨p, fp, rfl, ho, nd, hf⟩ := r1
      cases ho with
      | lst q1 q2 q3 =>
        have nS : p ∉ S1 := (List.nodup_cons.mp nd).1
        exact hb _ _ σ _ S1 (s1.freeze q2 q1 nS) _ _ h2 _ fun us F2 H2 S2 t2 s2 r2 => q _ F2 H2 S2 ((t1.freeze q1 (hf p (.head _))).trans t2) s2 ⟨Rp.mono t2.ex (.lst upd_same (q3.mono (Ex.new q1))), r2⟩
    | dic kvs => cases h2
    | dct kvs => cases h2
    | ins c fs => cases h2
theorem sd_tup {ta : TA} {a : DA} (ha : SdA cl K ta a) : SdI cl K (tTup ta) (dTup a) := fun F H σ ρ S s x ρ' h Q q => by
  simp only [dTup, Option.bind_eq_some_iff] at h
  obtain ⟨⟨x1, ρ1⟩, h1, h2⟩ := h
  split at h2
  · next hl =>
    cases h2
    refine ha F H σ ρ S s _ _ h1 _ fun vs F1 H1 S1 t1 s1 r1 => ⟨by rw [r1.length]; exact hl, fun p hp => ?_⟩
    have t : Tn F1 H1 _ _ := Tn.new (o := .tup vs) s1.ex hp
    exact q _ _ _ _ (t1.then t) (t.sr s1) (.tup upd_same (r1.mono t.exF))
  · cases h2
theorem se_lst {ta : TA} {a : DA} (ha : SdA cl K ta a) : SdE cl K (tLst ta) (dLst a) := fun F H σ ρ S s x ρ' h Q q => by
  simp only [dLst, Option.bind_eq_some_iff] at h
  obtain ⟨⟨x1, ρ1⟩, h1, h2⟩ := h
  split at h2
  · next hl =>
    cases h2
    refine ha F H σ ρ S s _ _ h1 _ fun vs F1 H1 S1 t1 s1 r1 => ⟨by rw [r1.length]; exact hl, fun p hp => ?_⟩
    refine q _ _ _ _ (t1.trans (Tr.newO hp)) (s1.newO hp) ⟨p, [p], rfl, .lst (fresh_back s1.ex hp) upd_same r1, ?_, fun q' hq => ?_⟩
    · refine List.nodup_cons.mpr ⟨fun hm => ?_, s1.nd⟩
      obtain ⟨_, u, hu, _⟩ := s1.rs.own p hm
      rw [hp] at hu
      cases hu
    · cases List.mem_singleton.mp hq
      exact .inr (none_back t1.there hp)
  · cases h2
theorem st_test {ta : TE} {a : DI} (ha : SdI cl K ta a) : SdT cl K (tTest ta) (dTest a) := fun F H σ ρ S s x ρ' h Q q => by
  simp only [dTest, Option.bind_eq_some_iff, Option.map_eq_some_iff] at h
  obtain ⟨⟨x1, ρ1⟩, h1, b, h2, e⟩ := h
  cases e
  refine ha F H σ ρ S s _ _ h1 _ fun v F1 H1 S1 t1 s1 r1 => ?_
  cases x1 <;> simp [toB] at h2
  subst h2
  cases r1
  exact ⟨_, rfl, q F1 H1 S1 t1 s1⟩
theorem st_b {ta : TE} {a : DI} (ha : SdI cl K ta a) : SdT cl K (tB ta) (dTest a) := st_test ha
theorem st_and {ta tb : TT} {a b : DT} (ha : SdT cl K ta a) (hb : SdT cl K tb b) : SdT cl K (tAnd ta tb) (dAnd a b) := fun F H σ ρ S s x ρ' h Q q => by
  simp only [dAnd, Option.bind_eq_some_iff] at h
  obtain ⟨⟨x1, ρ1⟩, h1, h2⟩ := h
  refine ha F H σ ρ S s _ _ h1 _ fun F1 H1 S1 t1 s1 => ?_
  dsimp only at h2
  cases x1 with
  | true =>
    rw [if_pos rfl] at h2
    show tb σ H1 Q
    exact hb F1 H1 σ _ S1 s1 _ _ h2 _ fun F2 H2 S2 t2 s2 => q F2 H2 S2 (t1.trans t2) s2
  | false =>
    rw [if_neg (show ¬ (false = true) from Bool.false_ne_true)] at h2
    cases h2
    show Q false H1
    exact q F1 H1 S1 t1 s1
theorem st_or {ta tb : TT} {a b : DT} (ha : SdT cl K ta a) (hb : SdT cl K tb b) : SdT cl K (tOr ta tb) (dOr a b) := fun F H σ ρ S s x ρ' h Q q => by
  simp only [dOr, Option.bind_eq_some_iff] at h
  obtain ⟨⟨x1, ρ1⟩, h1, h2⟩ := h
  refine ha F H σ ρ S s _ _ h1 _ fun F1 H1 S1 t1 s1 => ?_
  dsimp only at h2
  cases x1 with
  | false =>
    rw [if_neg (show ¬ (false = true) from Bool.false_ne_true)] at h2
    show tb σ H1 Q
    exact hb F1 H1 σ _ S1 s1 _ _ h2 _ fun F2 H2 S2 t2 s2 => q F2 H2 S2 (t1.trans t2) s2
  | true =>
    rw [if_pos rfl] at h2
    cases h2
    show Q true H1
    exact q F1 H1 S1 t1 s1
theorem st_not {ta : TT} {a : DT} (ha : SdT cl K ta a) : SdT cl K (tNot ta) (dNot a) := fun F H σ ρ S s x ρ' h Q q => by
  simp only [dNot, Option.map_eq_some_iff] at h
  obtain ⟨⟨x1, ρ1⟩, h1, e⟩ := h
  cases e
  exact ha F H σ ρ S s _ _ h1 _ fun F1 H1 S1 t1 s1 => q F1 H1 S1 t1 s1
theorem toB_bl {F : Hp} {v : V} {d : PyData} {k : Bool} (h : toB d = some k) (r : Rp F v d) : v = .bl k := by
  cases d <;> simp [toB] at h
  subst h
  cases r
  rfl
theorem sd_andV {ta tb : TE} {a b : DI} (ha : SdI cl K ta a) (hb : SdI cl K tb b) : SdI cl K (tAndV ta tb) (dAndV a b) := fun F H σ ρ S s x ρ' h Q q => by
  simp only [dAndV, Option.bind_eq_some_iff] at h
  obtain ⟨⟨x1, ρ1⟩, h1, c, hc, h2⟩ := h
  refine ha F H σ ρ S s _ _ h1 _ fun v F1 H1 S1 t1 s1 r1 => ?_
  have hv := toB_bl hc r1
  subst hv
  refine ⟨c, rfl, ?_⟩
  cases c with
  | true =>
    rw [if_pos rfl] at h2
    show tb σ H1 Q
    exact hb F1 H1 σ _ S1 s1 _ _ h2 _ fun v F2 H2 S2 t2 s2 => q v F2 H2 S2 (t1.trans t2) s2
  | false =>
    rw [if_neg (show ¬ (false = true) from Bool.false_ne_true)] at h2
    cases h2
    exact q _ F1 H1 S1 t1 s1 (.bl false)
theorem sd_orV {ta tb : TE} {a b : DI} (ha : SdI cl K ta a) (hb : SdI cl K tb b) : SdI cl K (tOrV ta tb) (dOrV a b) := fun F H σ ρ S s x ρ' h Q q => by
  simp only [dOrV, Option.bind_eq_some_iff] at h
  obtain ⟨⟨x1, ρ1⟩, h1, c, hc, h2⟩ := h
  refine ha F H σ ρ S s _ _ h1 _ fun v F1 H1 S1 t1 s1 r1 => ?_
  have hv := toB_bl hc r1
  subst hv
  refine ⟨c, rfl, ?_⟩
  cases c with
  | false =>
    rw [if_neg (show ¬ (false = true) from Bool.false_ne_true)] at h2
    show tb σ H1 Q
    exact hb F1 H1 σ _ S1 s1 _ _ h2 _ fun v F2 H2 S2 t2 s2 => q v F2 H2 S2 (t1.trans t2) s2
  | true =>
    rw [if_pos rfl] at h2
    cases h2
    exact q _ F1 H1 S1 t1 s1 (.bl true)
theorem sd_notV {ta : TE} {a : DI} (ha : SdI cl K ta a) : SdI cl K (tNotV ta) (dNotV a) := fun F H σ ρ S s x ρ' h Q q => by
  simp only [dNotV, Option.bind_eq_some_iff, Option.map_eq_some_iff] at h
  obtain ⟨⟨x1, ρ1⟩, h1, c, hc, e⟩ := h
  cases e
  refine ha F H σ ρ S s _ _ h1 _ fun v F1 H1 S1 t1 s1 r1 => ?_
  have hv := toB_bl hc r1
  subst hv
  exact ⟨c, rfl, q _ F1 H1 S1 t1 s1 (.bl _)⟩
theorem sd_if {tc : TT} {ta tb : TE} {c : DT} {a b : DI} (hc : SdT cl K tc c) (ha : SdI cl K ta a) (hb : SdI cl K tb b) : SdI cl K (tIf tc ta tb) (dIf c a b) := fun F H σ ρ S s x ρ' h Q q => by
  simp only [dIf, Option.bind_eq_some_iff] at h
  obtain ⟨⟨x1, ρ1⟩, h1, h2⟩ := h
  refine hc F H σ ρ S s _ _ h1 _ fun F1 H1 S1 t1 s1 => ?_
  dsimp only at h2
  cases x1 with
  | true =>
    rw [if_pos rfl] at h2
    show ta σ H1 Q
    exact ha F1 H1 σ _ S1 s1 _ _ h2 _ fun v F2 H2 S2 t2 s2 => q v F2 H2 S2 (t1.trans t2) s2
  | false =>
    rw [if_neg (show ¬ (false = true) from Bool.false_ne_true)] at h2
    show tb σ H1 Q
    exact hb F1 H1 σ _ S1 s1 _ _ h2 _ fun v F2 H2 S2 t2 s2 => q v F2 H2 S2 (t1.trans t2) s2
theorem sd_chain {r r' : R2} {f g : PyData → PyData → Option PyData} {ta tb tc : TE} {a b c : DI} (hr : RD2 r f) (hr' : RD2 r' g) (ha : SdI cl K ta a) (hb : SdI cl K tb b) (hc : SdV cl K tc c) : SdI cl K (tChain r r' ta tb tc) (dChain f g a b c) := fun F H σ ρ S s x ρ' h Q q => by
  simp only [dChain, Option.bind_eq_some_iff] at h
  obtain ⟨⟨x1, ρ1⟩, h1, ⟨x2, ρ2⟩, h2, z, h3, k, hk, h4⟩ := h
  refine ha F H σ ρ S s _ _ h1 _ fun v F1 H1 S1 t1 s1 r1 => ?_
  refine hb F1 H1 σ _ S1 s1 _ _ h2 _ fun u F2 H2 S2 t2 s2 r2 => ?_
  refine hr F2 H2 s2.ex _ _ _ _ _ (.inl (r1.mono t2.ex)) (.inl r2) h3 _ fun y F3 H3 t3 r3 => ⟨k, toB_bl hk r3, ?_⟩
  have s3 := t3.sr s2
  have t3' := (t1.trans t2).then t3
  cases k with
  | true =>
    rw [if_pos rfl] at h4
    simp only [Option.bind_eq_some_iff, Option.map_eq_some_iff] at h4
    obtain ⟨⟨x4, ρ4⟩, h4, z4, h5, e⟩ := h4
    cases e
    rw [if_pos rfl]
    refine hc F3 H3 σ _ _ s3 _ _ h4 _ fun w F4 H4 S4 t4 s4 r4 => ?_
    exact hr' F4 H4 s4.ex _ _ _ _ _ (.inl ((r2.mono t3.exF).mono t4.ex)) r4 h5 Q fun y' F5 H5 t5 r5 => q y' F5 H5 S4 ((t3'.trans t4).then t5) (t5.sr s4) r5
  | false =>
    rw [if_neg Bool.false_ne_true] at h4
    cases h4
    rw [if_neg Bool.false_ne_true]
    exact q _ F3 H3 _ t3' s3 (.bl false)
theorem so_none : SdO cl K tNoPart dNoPart := fun F H σ ρ S s x ρ' h Q q => by
  cases h
  exact q F H S Tr.refl s
theorem so_some {ta : TE} {a : DI} (ha : SdI cl K ta a) : SdO cl K (tPart ta) (dPart a) := fun F H σ ρ S s x ρ' h Q q => by
  simp only [dPart, Option.bind_eq_some_iff, Option.map_eq_some_iff] at h
  obtain ⟨⟨x1, ρ1⟩, h1, i, hi, e⟩ := h
  cases e
  refine ha F H σ ρ S s _ _ h1 _ fun v F1 H1 S1 t1 s1 r1 => ?_
  cases x1 <;> simp [toI] at hi
  subst hi
  cases r1
  exact ⟨_, rfl, q F1 H1 S1 t1 s1⟩
end

/-! ### a chain of three comparisons -/
def tChain3 (r r' r'' : R2) (ta tb tc td : TE) : TE := fun σ H Q => ta σ H fun x H1 => tb σ H1 fun y H2 => r x y H2 fun z H3 => ∃ k, z = .bl k ∧
  (if k = true then tc σ H3 fun w' H4 => r' y w' H4 fun z2 H5 => ∃ k2, z2 = .bl k2 ∧ (if k2 = true then td σ H5 fun w2 H6 => r'' w' w2 H6 Q else Q (.bl false) H5) else Q (.bl false) H3)
section
variable {cl : Nat → Addr} {K : PySem.W.Frag}
theorem sd_chain3 {r r' r'' : R2} {f g g' : PyData → PyData → Option PyData} {ta tb tc td : TE} {a b c d : DI} (hr : RD2 r f) (hr' : RD2 r' g) (hr'' : RD2 r'' g') (ha : SdI cl K ta a) (hb : SdI cl K tb b) (hc : SdI cl K tc c) (hd : SdV cl K td d) :
    SdI cl K (tChain3 r r' r'' ta tb tc td) (dChain3 f g g' a b c d) := fun F H σ ρ S s x ρ' h Q q => by
  simp only [dChain3, Option.bind_eq_some_iff] at h
  obtain ⟨⟨x1, ρ1⟩, h1, ⟨x2, ρ2⟩, h2, z, h3, k, hk, h4⟩ := h
  refine ha F H σ ρ S s _ _ h1 _ fun v F1 H1 S1 t1 s1 r1 => ?_
  refine hb F1 H1 σ _ S1 s1 _ _ h2 _ fun u F2 H2 S2 t2 s2 r2 => ?_
  refine hr F2 H2 s2.ex _ _ _ _ _ (.inl (r1.mono t2.ex)) (.inl r2) h3 _ fun y F3 H3 t3 r3 => ⟨k, toB_bl hk r3, ?_⟩
  have s3 := t3.sr s2
  have t3' := (t1.trans t2).then t3
  cases k with
  | true =>
    rw [if_pos rfl] at h4
    simp only [Option.bind_eq_some_iff] at h4
    obtain ⟨⟨x4, ρ4⟩, h4, z4, h5, k2, hk2, h6⟩ := h4
    rw [if_pos rfl]
    refine hc F3 H3 σ _ _ s3 _ _ h4 _ fun w F4 H4 S4 t4 s4 r4 => ?_
    refine hr' F4 H4 s4.ex _ _ _ _ _ (.inl ((r2.mono t3.exF).mono t4.ex)) (.inl r4) h5 _ fun y' F5 H5 t5 r5 => ⟨k2, toB_bl hk2 r5, ?_⟩
    have s5 := t5.sr s4
    have t5' := (t3'.trans t4).then t5
    cases k2 with
    | true =>
      rw [if_pos rfl] at h6
      simp only [Option.bind_eq_some_iff, Option.map_eq_some_iff] at h6
      obtain ⟨⟨x7, ρ7⟩, h7, z7, h8, e⟩ := h6
      cases e
      rw [if_pos rfl]
      refine hd F5 H5 σ _ _ s5 _ _ h7 _ fun w2 F6 H6 S6 t6 s6 r6 => ?_
      exact hr'' F6 H6 s6.ex _ _ _ _ _ (.inl ((r4.mono t5.exF).mono t6.ex)) r6 h8 Q fun y' F7 H7 t7 r7 => q y' F7 H7 S6 ((t5'.trans t6).then t7) (t7.sr s6) r7
    | false =>
      rw [if_neg Bool.false_ne_true] at h6
      cases h6
      rw [if_neg Bool.false_ne_true]
      exact q _ F5 H5 _ t5' s5 (.bl false)
  | false =>
    rw [if_neg Bool.false_ne_true] at h4
    cases h4
    rw [if_neg Bool.false_ne_true]
    exact q _ F3 H3 _ t3' s3 (.bl false)
end
section
variable {X : Cx}
open PySem.Spec PyProof.Rows
theorem pe_chain3 {a b c d : Expr} {ta tb tc td : TE} {pos : Pos} {op op' op'' : CmpOp} {r r' r'' : R2} (ho : OpR X (compareOp op) r) (ho' : OpR X (compareOp op') r') (ho'' : OpR X (compareOp op'') r'') (ha : PE X a ta) (hb : PE X b tb) (hc : PE X c tc) (hd : PE X d td)
    (hm : lastMarks [op, op', op''] [b, c, d] = false := by with_unfolding_all rfl) : PE X (.Compare a [op, op', op''] [b, c, d] pos) (tChain3 r r' r'' ta tb tc td) := by
  refine ⟨fun pins s σ H Q I h => ?_⟩
  refine Compare_chain (thn (ha.run pins s σ H _ I h) fun v s1 ⟨x, H1, I1, r1, q1⟩ => chain_link (thn (hb.run pins s1 σ H1 _ I1 q1) fun u s2 ⟨y, H2, I2, r2, q2⟩ =>
    thn (ho pins s2 σ H2 x y v u _ I2 r1 r2 q2) fun d s3 ⟨z, H3, I3, r3, k, e, q3⟩ => ?_)) hm
  subst e
  cases r3
  refine wpAny_truthy_bool ?_
  cases k with
  | false => exact ite_ff ⟨.bl false, H3, I3, rfl, q3⟩
  | true =>
    refine ite_tt (chain_link (thn (hc.run pins s3 σ H3 _ I3 q3) fun w' s4 ⟨z', H4, I4, r4, q4⟩ => thn (ho' pins s4 σ H4 y z' u w' _ I4 r2 r4 q4) fun d5 s5 ⟨z5, H5, I5, r5, k5, e5, q5⟩ => ?_))
    subst e5
    cases r5
    refine wpAny_truthy_bool ?_
    cases k5 with
    | false => exact ite_ff ⟨.bl false, H5, I5, rfl, q5⟩
    | true => exact ite_tt (chain_last (thn (hd.run pins s5 σ H5 _ I5 q5) fun w6 s6 ⟨z6, H6, I6, r6, q6⟩ => ho'' pins s6 σ H6 z' z6 w' w6 Q I6 r4 r6 q6))
end
end DL

set_option Elab.async false
set_option linter.all false
set_option maxRecDepth 100000
set_option maxHeartbeats 1000000
/-! DLc: iterators, targets, statements, loops, comprehensions, defs, calls -/
namespace DL
open PySem L2 Evl

inductive Fl where
  | nx
  | rt (r : Sl)
  | bk
  | ct
  | xc (c : Nat) (d : PyData)
abbrev DS := DEnv → Option (Fl × DEnv)
abbrev DL_ := DEnv → Option (List PyData × DEnv)
abbrev DG := PyData → DEnv → Option DEnv
abbrev DGs := List PyData → DEnv → Option DEnv
abbrev FS := List Sl → Option (Sl × List Sl)

def Only (vs : List Nat) (σ σ' : L2.St) : Prop := σ'.length = σ.length ∧ ∀ i, i ∉ vs → σ'[i]? = σ[i]?
theorem Only.refl (vs : List Nat) (σ : L2.St) : Only vs σ σ := ⟨rfl, fun _ _ => rfl⟩
theorem Only.trans {vs ws : List Nat} {σ σ1 σ2 : L2.St} (a : Only vs σ σ1) (b : Only ws σ1 σ2) : Only (vs ++ ws) σ σ2 :=
  ⟨b.1.trans a.1, fun i h => (b.2 i fun q => h (List.mem_append_right _ q)).trans (a.2 i fun q => h (List.mem_append_left _ q))⟩
theorem Only.set (i : Nat) (σ : L2.St) (v : Option V) : Only [i] σ (σ.set i v) :=
  ⟨List.length_set, fun j h => by
    rw [List.getElem?_set_ne]
    intro e
    exact h (by rw [e]; exact .head _)⟩
theorem Only.mono {vs ws : List Nat} {σ σ1 : L2.St} (a : Only vs σ σ1) (h : ∀ i ∈ vs, i ∈ ws) : Only ws σ σ1 := ⟨a.1, fun i n => a.2 i fun q => n (h i q)⟩
def Pin (pn : List Nat) (σ σ' : L2.St) : Prop := ∀ i ∈ pn, σ'[i]? = σ[i]?
theorem Pin.refl (pn : List Nat) (σ : L2.St) : Pin pn σ σ := fun _ _ => rfl
theorem Pin.trans {pn : List Nat} {σ σ1 σ2 : L2.St} (a : Pin pn σ σ1) (b : Pin pn σ1 σ2) : Pin pn σ σ2 := fun i h => (b i h).trans (a i h)
def apart (pn vs : List Nat) : Bool := pn.all fun i => !vs.contains i
theorem Only.pin {pn vs : List Nat} {σ σ' : L2.St} (o : Only vs σ σ') (h : apart pn vs = true) : Pin pn σ σ' := fun i hi => o.2 i fun q => by
  have := List.all_eq_true.mp h i hi
  simp at this
  exact this q

def RR (cl : Nat → Addr) (F' H' : Hp) (S' : List Addr) (H0 : Hp) (S0 : List Addr) (v : V) : Sl → Prop
  | .im d => Rp F' v d
  | .ow o => ∃ p fp, v = .ref p ∧ RO cl F' H' p o fp ∧ (fp ++ S').Nodup ∧ ∀ q ∈ fp, q ∈ S0 ∨ H0 q = none
  | _ => False
/-- the field of an error's class: the classes by numbers -/
def xfld : Nat → Option Str
  | 5 => some "at"
  | 6 => some "at"
  | 7 => some "room"
  | 8 => some "room"
  | 9 => some "night"
  | 10 => some "kind"
  | 11 => some "night"
  | 12 => some "kind"
  | 13 => some "number"
  | 14 => some "name"
  | 15 => some "name"
  | 16 => some "name"
  | 17 => some "name"
  | 18 => some "name"
  | 19 => some "name"
  | 20 => some "name"
  | 21 => some "name"
  | _ => none
/-- what an error bears: its own dict with the one field, or nothing -/
def XRep (F : Hp) (c : Nat) (d : PyData) (od : Option Addr) : Prop := match xfld c with
  | none => od = none ∧ d = .none
  | some f => ∃ dx v, od = some dx ∧ F dx = some (.xd [(f, v)]) ∧ Rp F v d
/-- what follows a statement, by how it ends -/
def Post (cl : Nat → Addr) (K : PySem.W.Frag) (W : WX) (pn : List Nat) (F H : Hp) (σ : L2.St) (S : List Addr) (D : Ends) : Fl → DEnv → Prop
  | .nx, ρ' => ∀ F' H' σ' S', Tr F H S F' H' S' → SR cl K F' H' σ' ρ' S' → Pin pn σ σ' → D.nx σ' H'
  | .bk, ρ' => ∀ F' H' σ' S', Tr F H S F' H' S' → SR cl K F' H' σ' ρ' S' → Pin pn σ σ' → D.bk σ' H'
  | .ct, ρ' => ∀ F' H' σ' S', Tr F H S F' H' S' → SR cl K F' H' σ' ρ' S' → Pin pn σ σ' → D.ct σ' H'
  | .rt r, ρ' => ∀ v F' H' σ' S', Tr F H S F' H' S' → SR cl K F' H' σ' ρ' S' → Pin pn σ σ' → RR cl F' H' S' H S v r → D.rt v H'
  | .xc c d, ρ' => ∀ od F' H' σ' S', Tr F H S F' H' S' → SR cl K F' H' σ' ρ' S' → Pin pn σ σ' → XRep F' c d od → W (.ref (cl c)) od σ' H'
theorem RR.back {cl : Nat → Addr} {F' H' : Hp} {S' : List Addr} {F H H1 F1 : Hp} {S S1 : List Addr} {v : V} {r : Sl} (t : Tr F H S F1 H1 S1) (h : RR cl F' H' S' H1 S1 v r) : RR cl F' H' S' H S v r := by
  cases r with
  | ow o =>
    obtain ⟨p, fp, e, ho, nd, hf⟩ := h
    exact ⟨p, fp, e, ho, nd, fun q hq => (hf q hq).elim (t.sub q) fun z => .inr (none_back t.there z)⟩
  | im d => exact h
  | un => exact h
  | scr ns => exact h
/-- a later start -/
theorem Post.later {cl : Nat → Addr} {K : PySem.W.Frag} {W : WX} {pn : List Nat} {F H : Hp} {σ : L2.St} {S : List Addr} {D : Ends} {F1 H1 : Hp} {σ1 : L2.St} {S1 : List Addr} {fl : Fl} {ρ' : DEnv} (p : Post cl K W pn F H σ S D fl ρ') (t : Tr F H S F1 H1 S1) (q : Pin pn σ σ1) :
    Post cl K W pn F1 H1 σ1 S1 D fl ρ' := by
  cases fl with
  | nx => exact fun F' H' σ' S' t' s' q' => p F' H' σ' S' (t.trans t') s' (q.trans q')
  | bk => exact fun F' H' σ' S' t' s' q' => p F' H' σ' S' (t.trans t') s' (q.trans q')
  | ct => exact fun F' H' σ' S' t' s' q' => p F' H' σ' S' (t.trans t') s' (q.trans q')
  | rt r => exact fun v F' H' σ' S' t' s' q' r' => p v F' H' σ' S' (t.trans t') s' (q.trans q') (r'.back t)
  | xc c d => exact fun od F' H' σ' S' t' s' q' x' => p od F' H' σ' S' (t.trans t') s' (q.trans q') x'

section
variable (cl : Nat → Addr) (K : PySem.W.Frag)
def SdS (W : WX) (pn : List Nat) (ts : TS) (d : DS) : Prop := ∀ F H σ ρ S, SR cl K F H σ ρ S → ∀ fl ρ', d ρ = some (fl, ρ') → ∀ D : Ends, Post cl K W pn F H σ S D fl ρ' → ts D σ H
def SdG (vs : List Nat) (g : TG) (d : DG) : Prop := ∀ F H σ ρ S, SR cl K F H σ ρ S → ∀ v x ρ', Rp F v x → d x ρ = some ρ' → ∀ Q : L2.St → Hp → Prop, (∀ F' H' σ' S', Tr F H S F' H' S' → SR cl K F' H' σ' ρ' S' → Only vs σ σ' → Q σ' H') → g v σ H Q
def SdGs (vs : List Nat) (g : TGs) (d : DGs) : Prop := ∀ F H σ ρ S, SR cl K F H σ ρ S → ∀ us xs ρ', RpAll F us xs → d xs ρ = some ρ' → ∀ Q : L2.St → Hp → Prop, (∀ F' H' σ' S', Tr F H S F' H' S' → SR cl K F' H' σ' ρ' S' → Only vs σ σ' → Q σ' H') → g us σ H Q
/-- an iterator gives these, one after the other -/
def ItOk (J : It) (F : Hp) (ds : List PyData) : Prop := ∀ F' H', Ex F F' → Ex F' H' → (∀ i d, ds[i]? = some d → J.go i H' ∧ ∀ x H'', J.yld i H' x H'' → ∃ F'', Tn F' H' F'' H'' ∧ Rp F'' x d) ∧ J.stop ds.length H'
def SdL (w : TI) (d : DL_) : Prop := ∀ F H σ ρ S, SR cl K F H σ ρ S → ∀ x ρ', d ρ = some (x, ρ') → ∀ R : It → Hp → Prop, (∀ J F' H' S', Tr F H S F' H' S' → SR cl K F' H' σ ρ' S' → ItOk J F' x → R J H') → w σ H R
end

/-! combinators -/
def dNext : DS := fun ρ => some (.nx, ρ)
def dSeq (a b : DS) : DS := fun ρ => (a ρ).bind fun r => match r.1 with
  | .nx => b r.2
  | fl => some (fl, r.2)
def dAsg (i : Nat) (e : DI) : DS := fun ρ => (e ρ).map fun r => (.nx, r.2.set i (.im r.1))
def asOw : Val → Option Ob
  | .nw o => some o
  | _ => none
def dAsgO (i : Nat) (e : DE) : DS := fun ρ => (e ρ).bind fun r => (asOw r.1).map fun o => (.nx, r.2.set i (.ow o))
def two : List PyData → Option (PyData × PyData)
  | [a, b] => some (a, b)
  | _ => none
def dPar (i j : Nat) (a : DA) : DS := fun ρ => (a ρ).bind fun r => (two r.1).map fun p => (.nx, (r.2.set i (.im p.1)).set j (.im p.2))
def dAsgG (e : DI) (g : DG) : DS := fun ρ => (e ρ).bind fun r => (g r.1 r.2).map fun ρ' => (.nx, ρ')
def dName (i : Nat) : DG := fun x ρ => some (ρ.set i (.im x))
def dGNil : DGs := fun xs ρ => match xs with
  | [] => some ρ
  | _ => none
def dGCons (g : DG) (gs : DGs) : DGs := fun xs ρ => match xs with
  | [] => none
  | x :: xs => (g x ρ).bind fun ρ' => gs xs ρ'
def asTup : PyData → Option (List PyData)
  | .tuple ds => some ds
  | _ => none
def asLst : PyData → Option (List PyData)
  | .list ds => some ds
  | _ => none
def dGTup (n : Nat) (gs : DGs) : DG := fun x ρ => (asTup x).bind fun xs => if xs.length = n then gs xs ρ else none
def dIfS (c : DT) (a b : DS) : DS := fun ρ => (c ρ).bind fun r => if r.1 = true then a r.2 else b r.2
def dRet (e : DI) : DS := fun ρ => (e ρ).map fun r => (.rt (.im r.1), r.2)
/-- an owned object is handed out -/
def dRetO (i : Nat) : DS := fun ρ => match ρ[i]? with
  | some (.ow o) => some (.rt (.ow o), ρ.set i .un)
  | _ => none
def dRetE (e : DE) : DS := fun ρ => (e ρ).bind fun r => (asOw r.1).map fun o => (.rt (.ow o), r.2)
def dRetN : DS := fun ρ => some (.rt (.im .none), ρ)
def dBreak : DS := fun ρ => some (.bk, ρ)
def dCont : DS := fun ρ => some (.ct, ρ)
def dDrop (e : DE) : DS := fun ρ => (e ρ).map fun r => (.nx, r.2)
def dNever : DS := fun _ => none
def dAug (i : Nat) (f : Int → Int → Int) (e : DI) : DS := fun ρ => match ρ[i]? with
  | some (.im (.int x)) => (e ρ).bind fun r => (toI r.1).map fun y => (.nx, r.2.set i (.im (.int (f x y))))
  | _ => none
def dLoop (g : DG) (b : DS) : List PyData → DS
  | [], ρ => some (.nx, ρ)
  | d :: ds, ρ => (g d ρ).bind fun ρ1 => (b ρ1).bind fun r => match r.1 with
    | .nx => dLoop g b ds r.2
    | .ct => dLoop g b ds r.2
    | .bk => some (.nx, r.2)
    | .rt s => some (.rt s, r.2)
    | .xc c d => some (.xc c d, r.2)
def dFor (l : DL_) (g : DG) (b : DS) : DS := fun ρ => (l ρ).bind fun r => dLoop g b r.1 r.2
def dWhileN (t : DT) (b : DS) : Nat → DS
  | 0, _ => none
  | n + 1, ρ => (t ρ).bind fun r => if r.1 = true then (b r.2).bind fun s => match s.1 with
      | .nx => dWhileN t b n s.2
      | .ct => dWhileN t b n s.2
      | .bk => some (.nx, s.2)
      | .rt v => some (.rt v, s.2)
      | .xc c d => some (.xc c d, s.2)
    else some (.nx, r.2)
def dItL (e : DI) : DL_ := fun ρ => (e ρ).bind fun r => (asLst r.1).map (·, r.2)
def dItT (e : DI) : DL_ := fun ρ => (e ρ).bind fun r => (asTup r.1).map (·, r.2)
def rng (lo : Int) (n : Nat) : List PyData := (List.range n).map fun (k : Nat) => .int (lo + k)
def dRng1 (e : DI) : DL_ := fun ρ => (e ρ).bind fun r => (toI r.1).bind fun j => if -(2 ^ 62) ≤ j ∧ j < 2 ^ 62 then some (rng 0 j.toNat, r.2) else none
def dRng2 (a b : DI) : DL_ := fun ρ => (a ρ).bind fun r => (b r.2).bind fun s => (toI r.1).bind fun i => (toI s.1).bind fun j => if -(2 ^ 62) ≤ i ∧ i < 2 ^ 62 ∧ -(2 ^ 62) ≤ j ∧ j < 2 ^ 62 then some (rng i (j - i).toNat, s.2) else none
def dEnum (e : DI) : DL_ := fun ρ => (e ρ).bind fun r => (asLst r.1).map fun ds => (ds.zipIdx.map fun p => .tuple [.int (p.2 : Int), p.1], r.2)
def dZip (a b : DI) : DL_ := fun ρ => (a ρ).bind fun r => (b r.2).bind fun s => (asLst r.1).bind fun xs => (asLst s.1).map fun ys => ((xs.zip ys).map fun p => .tuple [p.1, p.2], s.2)
def wipeD : DEnv → List Nat → DEnv
  | ρ, [] => ρ
  | ρ, v :: vs => (wipeD ρ vs).set v .un
def dTurns (g : DG) (t : DT) (e : DI) (vs : List Nat) : List PyData → DEnv → List PyData → Option (List PyData × DEnv)
  | [], ρ, acc => some (acc, ρ)
  | d :: ds, ρ, acc => (g d ρ).bind fun ρ1 => (t ρ1).bind fun r => if r.1 = true then (e r.2).bind fun s => if acc.length < sizeLine then dTurns g t e vs ds (wipeD s.2 vs) (acc ++ [s.1]) else none
    else dTurns g t e vs ds (wipeD r.2 vs) acc
def dLc (l : DL_) (g : DG) (t : DT) (e : DI) (vs : List Nat) : DE := fun ρ => (l ρ).bind fun r => (dTurns g t e vs r.1 (wipeD r.2 vs) []).map fun s => (.nw (.lst s.1), s.2)
def dYes : DT := fun ρ => some (true, ρ)
def dSl (f : PyData → Option Int → Option Int → Option PyData) (a : DI) (lo hi : DO) : DI := fun ρ => (a ρ).bind fun r => (lo r.2).bind fun l => (hi l.2).bind fun h => (f r.1 l.1 h.1).map (·, h.2)
def dSlN (f : PyData → Option Int → Option Int → Option PyData) (i : Nat) (lo hi : DO) : DI := fun ρ => (view ρ[i]?).bind fun _ => (lo ρ).bind fun l => (hi l.2).bind fun h => (view h.2[i]?).bind fun x => (f x l.1 h.1).map (·, h.2)

def takeArgs : List Val → DEnv → Option (List Sl × DEnv)
  | [], ρ => some ([], ρ)
  | .im d :: vs, ρ => (takeArgs vs ρ).map fun r => (.im d :: r.1, r.2)
  | .at i :: vs, ρ => match ρ[i]? with
    | some (.ow o) => (takeArgs vs (ρ.set i .un)).map fun r => (.ow o :: r.1, r.2)
    | some (.scr ns) => (takeArgs vs ρ).map fun r => (.scr ns :: r.1, r.2)
    | _ => none
  | .nw _ :: _, _ => none
def putArgs : List Val → List Sl → DEnv → DEnv
  | .at i :: vs, .ow o :: as, ρ => putArgs vs as (ρ.set i (.ow o))
  | _ :: vs, _ :: as, ρ => putArgs vs as ρ
  | _, _, ρ => ρ
def resVal : Sl → Option Val
  | .im d => some (.im d)
  | .ow o => some (.nw o)
  | _ => none
def dCall (m : FS) (dds : List PyData) (a : DAr) : DE := fun ρ => (a ρ).bind fun r => (takeArgs r.1 r.2).bind fun t => (m (t.1 ++ dds.map .im)).bind fun s => (resVal s.1).map fun v => (v, putArgs r.1 s.2 t.2)
def maskO (own : List Nat) : Nat → Nat → DEnv → DEnv
  | _, 0, _ => []
  | j, k + 1, s :: ρ => (if own.contains j then s else .un) :: maskO own (j + 1) k ρ
  | j, k + 1, [] => .un :: maskO own (j + 1) k []
def dFn (n : Nat) (own : List Nat) (body : DS) : FS := fun args => (body (args ++ List.replicate (n - args.length) .un)).bind fun r => match r.1 with
  | .nx => some (.im .none, maskO own 0 args.length r.2)
  | .rt s => some (s, maskO own 0 args.length r.2)
  | _ => none
/-- the promise of a def, by its denotation -/
def toSp (cl : Nat → Addr) (K : PySem.W.Frag) (np : Nat) (m : FS) : Sp := fun vs H Q _ => vs.length = np ∧ ∃ F args S r args', SR cl K F H (vs.map some) args S ∧ m args = some (r, args') ∧
  ∀ v F' H' S', Tr F H S F' H' S' → SR cl K F' H' (vs.map some) args' S' → RR cl F' H' S' H S v r → Q v H'

section
variable {cl : Nat → Addr} {K : PySem.W.Frag} {W : WX} {pn : List Nat}
theorem rp_lst {F : Hp} {v : V} {ds : List PyData} (h : Rp F v (.list ds)) : ∃ a xs, v = .ref a ∧ F a = some (.lst xs) ∧ RpAll F xs ds := by
  cases h with
  | lst h1 h2 => exact ⟨_, _, rfl, h1, h2⟩
/-! iterators -/
theorem sl_list {te : TE} {e : DI} (h : SdI cl K te e) : SdL cl K (iList K te) (dItL e) := fun F H σ ρ S s x ρ' he R q => by
  simp only [dItL, Option.bind_eq_some_iff, Option.map_eq_some_iff] at he
  obtain ⟨⟨x1, ρ1⟩, h1, ds, h2, e⟩ := he
  cases e
  refine h F H σ ρ S s _ _ h1 _ fun v F1 H1 S1 t1 s1 r1 => ?_
  cases x1 <;> simp [asLst] at h2
  subst h2
  cases r1 with
  | lst q1 q2 =>
    rename_i a xs
    refine ⟨a, rfl, ⟨xs, sq_of (s1.ex _ _ q1)⟩, q _ F1 H1 S1 t1 s1 fun F' H' ex1 ex2 => ⟨fun i d hd => ?_, ⟨xs, sq_of (ex2 _ _ (ex1 _ _ q1)), by rw [q2.length]; exact Nat.le_refl _⟩⟩⟩
    have hs : SqL K H' a xs := sq_of (ex2 _ _ (ex1 _ _ q1))
    obtain ⟨v, g1, g2⟩ := q2.get hd
    refine ⟨⟨xs, v, hs, g1⟩, ?_⟩
    rintro y H'' ⟨rfl, hy⟩
    have := hy xs hs
    rw [g1] at this
    cases this
    exact ⟨F', Tn.refl ex2, g2.mono ex1⟩
theorem sl_tup {te : TE} {e : DI} (h : SdI cl K te e) : SdL cl K (iTup K te) (dItT e) := fun F H σ ρ S s x ρ' he R q => by
  simp only [dItT, Option.bind_eq_some_iff, Option.map_eq_some_iff] at he
  obtain ⟨⟨x1, ρ1⟩, h1, ds, h2, e⟩ := he
  cases e
  refine h F H σ ρ S s _ _ h1 _ fun v F1 H1 S1 t1 s1 r1 => ?_
  cases x1 <;> simp [asTup] at h2
  subst h2
  cases r1 with
  | tup q1 q2 =>
    rename_i a xs
    refine ⟨a, rfl, ⟨xs, st_of (s1.ex _ _ q1)⟩, q _ F1 H1 S1 t1 s1 fun F' H' ex1 ex2 => ⟨fun i d hd => ?_, ⟨xs, st_of (ex2 _ _ (ex1 _ _ q1)), by rw [q2.length]; exact Nat.le_refl _⟩⟩⟩
    have hs : SqT K H' a xs := st_of (ex2 _ _ (ex1 _ _ q1))
    obtain ⟨v, g1, g2⟩ := q2.get hd
    refine ⟨⟨xs, v, hs, g1⟩, ?_⟩
    rintro y H'' ⟨rfl, hy⟩
    have := hy xs hs
    rw [g1] at this
    cases this
    exact ⟨F', Tn.refl ex2, g2.mono ex1⟩
theorem rng_get {lo : Int} {n i : Nat} {d : PyData} (h : (rng lo n)[i]? = some d) : i < n ∧ d = .int (lo + i) := by
  unfold rng at h
  rw [List.getElem?_map, Option.map_eq_some_iff] at h
  obtain ⟨k, h1, h2⟩ := h
  obtain ⟨h3, h4⟩ := List.getElem?_eq_some_iff.mp h1
  rw [List.getElem_range] at h4
  rw [List.length_range] at h3
  subst h4
  exact ⟨h3, h2.symm⟩
theorem it_rng {lo : Int} {n : Nat} {F : Hp} : ItOk (Itr lo n) F (rng lo n) := fun F' H' e1 e2 => ⟨fun i d hd => by
  obtain ⟨h1, rfl⟩ := rng_get hd
  refine ⟨h1, ?_⟩
  rintro y H'' ⟨rfl, rfl⟩
  exact ⟨F', Tn.refl e2, .int _⟩, by show n ≤ (rng lo n).length; simp [rng]⟩
theorem sl_rng1 {te : TE} {e : DI} (h : SdI cl K te e) : SdL cl K (iRng1 (tCons te tNil)) (dRng1 e) := fun F H σ ρ S s x ρ' he R q => by
  simp only [dRng1, Option.bind_eq_some_iff] at he
  obtain ⟨⟨x1, ρ1⟩, h1, j, h2, h3⟩ := he
  split at h3
  · next hj =>
    cases h3
    refine h F H σ ρ S s _ _ h1 _ fun v F1 H1 S1 t1 s1 r1 => ?_
    cases x1 <;> simp [toI] at h2
    subst h2
    cases r1
    exact ⟨_, rfl, hj.1, hj.2, q _ F1 H1 S1 t1 s1 it_rng⟩
  · cases h3
theorem sl_rng2 {ta tb : TE} {a b : DI} (ha : SdI cl K ta a) (hb : SdI cl K tb b) : SdL cl K (iRng2 (tCons ta (tCons tb tNil))) (dRng2 a b) := fun F H σ ρ S s x ρ' he R q => by
  simp only [dRng2, Option.bind_eq_some_iff] at he
  obtain ⟨⟨x1, ρ1⟩, h1, ⟨x2, ρ2⟩, h2, i, hi, j, hj, h3⟩ := he
  split at h3
  · next hj' =>
    cases h3
    refine ha F H σ ρ S s _ _ h1 _ fun v F1 H1 S1 t1 s1 r1 => ?_
    refine hb F1 H1 σ _ S1 s1 _ _ h2 _ fun u F2 H2 S2 t2 s2 r2 => ?_
    cases x1 <;> simp [toI] at hi
    subst hi
    cases r1
    cases x2 <;> simp [toI] at hj
    subst hj
    cases r2
    exact ⟨_, _, rfl, hj', q _ F2 H2 S2 (t1.trans t2) s2 it_rng⟩
  · cases h3
theorem sl_enum {te : TE} {e : DI} (h : SdI cl K te e) : SdL cl K (iEnum K (tCons te tNil)) (dEnum e) := fun F H σ ρ S s x ρ' he R q => by
  simp only [dEnum, Option.bind_eq_some_iff, Option.map_eq_some_iff] at he
  obtain ⟨⟨x1, ρ1⟩, h1, ds, h2, e⟩ := he
  cases e
  refine h F H σ ρ S s _ _ h1 _ fun v F1 H1 S1 t1 s1 r1 => ?_
  cases x1 <;> simp [asLst] at h2
  subst h2
  cases r1 with
  | lst q1 q2 =>
    rename_i ds a xs
    refine ⟨a, xs, rfl, sq_of (s1.ex _ _ q1), q _ F1 H1 S1 t1 s1 fun F' H' ex1 ex2 => ⟨fun i d hd => ?_, ⟨xs, sq_of (ex2 _ _ (ex1 _ _ q1)), by rw [q2.length]; simp⟩⟩⟩
    have hs : SqL K H' a xs := sq_of (ex2 _ _ (ex1 _ _ q1))
    rw [List.getElem?_map, Option.map_eq_some_iff] at hd
    obtain ⟨⟨d0, k⟩, hd, rfl⟩ := hd
    rw [List.getElem?_zipIdx, Option.map_eq_some_iff] at hd
    obtain ⟨d1, hd, e⟩ := hd
    cases e
    obtain ⟨v, g1, g2⟩ := q2.get hd
    refine ⟨⟨xs, v, hs, g1⟩, ?_⟩
    rintro y H'' ⟨T, z, rfl, hT, rfl, hy⟩
    have := hy xs hs
    rw [g1] at this
    cases this
    have tn : Tn F' H' _ _ := Tn.new (o := .tup [.int ((i : Nat) : Int), v]) ex2 hT
    refine ⟨_, tn, .tup upd_same (.cons ?_ (.cons ((g2.mono ex1).mono tn.exF) .nil))⟩
    show Rp _ (.int (i : Int)) (.int ((0 + i : Nat) : Int))
    rw [Nat.zero_add]
    exact .int _
theorem sl_zip {ta tb : TE} {a b : DI} (ha : SdI cl K ta a) (hb : SdI cl K tb b) : SdL cl K (iZip K (tCons ta (tCons tb tNil))) (dZip a b) := fun F H σ ρ S s x ρ' he R q => by
  simp only [dZip, Option.bind_eq_some_iff, Option.map_eq_some_iff] at he
  obtain ⟨⟨x1, ρ1⟩, h1, ⟨x2, ρ2⟩, h2, xs, hx, ys, hy, e⟩ := he
  cases e
  refine ha F H σ ρ S s _ _ h1 _ fun v F1 H1 S1 t1 s1 r1 => ?_
  refine hb F1 H1 σ _ S1 s1 _ _ h2 _ fun u F2 H2 S2 t2 s2 r2 => ?_
  replace r1 := r1.mono t2.ex
  cases x1 <;> simp [asLst] at hx
  subst hx
  cases x2 <;> simp [asLst] at hy
  subst hy
  obtain ⟨a, us, rfl, q1, q2⟩ := rp_lst r1
  obtain ⟨b, ws, rfl, p1, p2⟩ := rp_lst r2
  · · refine ⟨a, b, us, ws, rfl, sq_of (s2.ex _ _ q1), sq_of (s2.ex _ _ p1), q _ F2 H2 S2 (t1.trans t2) s2 fun F' H' ex1 ex2 => ⟨fun i d hd => ?_, ⟨us, ws, sq_of (ex2 _ _ (ex1 _ _ q1)), sq_of (ex2 _ _ (ex1 _ _ p1)), ?_⟩⟩⟩
      · have hs : SqL K H' a us := sq_of (ex2 _ _ (ex1 _ _ q1))
        have hs2 : SqL K H' b ws := sq_of (ex2 _ _ (ex1 _ _ p1))
        rw [List.getElem?_map, Option.map_eq_some_iff] at hd
        obtain ⟨⟨d0, d1⟩, hd, rfl⟩ := hd
        obtain ⟨k1, k2⟩ := List.getElem?_zip_eq_some.mp hd
        obtain ⟨v, g1, g2⟩ := q2.get k1
        obtain ⟨w, f1, f2⟩ := p2.get k2
        refine ⟨⟨us, ws, v, w, hs, hs2, g1, f1⟩, ?_⟩
        rintro y H'' ⟨T, z, z2, rfl, hT, rfl, hy1, hy2⟩
        have e1 := hy1 us hs
        rw [g1] at e1
        cases e1
        have e2 := hy2 ws hs2
        rw [f1] at e2
        cases e2
        have tn : Tn F' H' _ _ := Tn.new (o := .tup [v, w]) ex2 hT
        exact ⟨_, tn, .tup upd_same (.cons ((g2.mono ex1).mono tn.exF) (.cons ((f2.mono ex1).mono tn.exF) .nil))⟩
      · rw [q2.length, p2.length, List.length_map, List.length_zip]
        omega

/-! targets -/
theorem SR.put_im {F H : Hp} {σ : L2.St} {ρ : DEnv} {S : List Addr} {v : V} {d : PyData} (i : Nat) (s : SR cl K F H σ ρ S) (h : Rp F v d) : ∃ S', SR cl K F H (σ.set i (some v)) (ρ.set i (.im d)) S' ∧ Tr F H S F H S' := by
  obtain ⟨S0, a, b⟩ := s.rs.put_im i h
  exact ⟨S0, ⟨s.ex, a, s.nd.sublist b⟩, Tr.refl.less fun p hp => b.subset hp⟩
theorem sg_name (i : Nat) : SdG cl K [i] (gName i) (dName i) := fun F H σ ρ S s v x ρ' hv he Q q => by
  cases he
  obtain ⟨S', s', t'⟩ := s.put_im i hv
  exact q F H _ S' t' s' (Only.set i σ _)
theorem sgs_nil : SdGs cl K [] gNil dGNil := fun F H σ ρ S s us xs ρ' hv he Q q => by
  cases xs with
  | nil =>
    cases he
    cases hv
    exact ⟨rfl, q F H σ S Tr.refl s (Only.refl _ _)⟩
  | cons x xs => cases he
theorem sgs_cons {vs ws : List Nat} {g : TG} {gs : TGs} {d : DG} {ds : DGs} (h1 : SdG cl K vs g d) (h2 : SdGs cl K ws gs ds) : SdGs cl K (vs ++ ws) (gCons g gs) (dGCons d ds) := fun F H σ ρ S s us xs ρ' hv he Q q => by
  cases xs with
  | nil => cases he
  | cons x xs =>
    simp only [dGCons, Option.bind_eq_some_iff] at he
    obtain ⟨ρ1, e1, e2⟩ := he
    cases hv with
    | cons a b =>
      refine ⟨_, _, rfl, h1 F H σ ρ S s _ _ _ a e1 _ fun F1 H1 σ1 S1 t1 s1 o1 => ?_⟩
      exact h2 F1 H1 σ1 ρ1 S1 s1 _ _ _ (b.mono t1.ex) e2 Q fun F2 H2 σ2 S2 t2 s2 o2 => q F2 H2 σ2 S2 (t1.trans t2) s2 (o1.trans o2)
theorem sg_tup {vs : List Nat} {n : Nat} {gs : TGs} {ds : DGs} (h : SdGs cl K vs gs ds) : SdG cl K vs (gTup K n gs) (dGTup n ds) := fun F H σ ρ S s v x ρ' hv he Q q => by
  simp only [dGTup, Option.bind_eq_some_iff] at he
  obtain ⟨xs, h1, h2⟩ := he
  split at h2
  · next hl =>
    cases x <;> simp [asTup] at h1
    subst h1
    cases hv with
    | tup q1 q2 => exact ⟨_, _, rfl, st_of (s.ex _ _ q1), q2.length.trans hl, h F H σ ρ S s _ _ _ q2 h2 Q q⟩
  · cases h2

/-! statements -/
theorem ss_next : SdS cl K W pn tNext dNext := fun F H σ ρ S s fl ρ' h D p => by
  cases h
  exact p F H σ S Tr.refl s (Pin.refl _ _)
theorem ss_seq {t u : TS} {a b : DS} (ha : SdS cl K W pn t a) (hb : SdS cl K W pn u b) : SdS cl K W pn (tSeq t u) (dSeq a b) := fun F H σ ρ S s fl ρ' h D p => by
  simp only [dSeq, Option.bind_eq_some_iff] at h
  obtain ⟨⟨fl1, ρ1⟩, h1, h2⟩ := h
  refine ha F H σ ρ S s _ _ h1 _ ?_
  cases fl1 with
  | nx => exact fun F1 H1 σ1 S1 t1 s1 q1 => hb F1 H1 σ1 ρ1 S1 s1 _ _ h2 D (p.later t1 q1)
  | bk => cases h2; exact p
  | ct => cases h2; exact p
  | rt r => cases h2; exact p
  | xc c d => cases h2; exact p
theorem ss_asg {i : Nat} {te : TE} {e : DI} (h : SdI cl K te e) (hi : pn.contains i = false) : SdS cl K W pn (tAsg te (gName i)) (dAsg i e) := fun F H σ ρ S s fl ρ' he D p => by
  simp only [dAsg, Option.map_eq_some_iff] at he
  obtain ⟨⟨x, ρ1⟩, h1, e⟩ := he
  cases e
  refine h F H σ ρ S s _ _ h1 _ fun v F1 H1 S1 t1 s1 r1 => ?_
  obtain ⟨S', s', t'⟩ := s1.put_im i r1
  refine p F1 H1 _ S' (t1.trans t') s' fun j hj => List.getElem?_set_ne fun q => ?_
  subst q
  simp at hi
  exact hi hj
theorem ss_asgO {i : Nat} {te : TE} {e : DE} (h : SdE cl K te e) (hi : pn.contains i = false) : SdS cl K W pn (tAsg te (gName i)) (dAsgO i e) := fun F H σ ρ S s fl ρ' he D p => by
  simp only [dAsgO, Option.bind_eq_some_iff, Option.map_eq_some_iff] at he
  obtain ⟨⟨x, ρ1⟩, h1, o, h2, e⟩ := he
  cases e
  refine h F H σ ρ S s _ _ h1 _ fun v F1 H1 S1 t1 s1 r1 => ?_
  have hx : x = .nw o := by
    cases x <;> simp [asOw] at h2
    subst h2
    rfl
  subst hx
  obtain ⟨a, fp, rfl, ho, nd, hf⟩ := r1
  have pin : Pin pn σ (σ.set i (some (.ref a))) := fun j hj => List.getElem?_set_ne fun q => by
    subst q
    simp at hi
    exact hi hj
  by_cases hl : i < ρ1.length
  · obtain ⟨S0, S2, a1, a2, a3⟩ := s1.rs.put_ow i hl ho
    have nd2 : S2.Nodup := a2.nodup_iff.mpr (nd.sublist (List.Sublist.append_left a3 _))
    refine p F1 H1 _ S2 ⟨t1.ex, t1.keep, t1.there, t1.own, fun q hq => ?_⟩ ⟨s1.ex, a1, nd2⟩ pin
    rcases List.mem_append.mp (a2.mem_iff.mp hq) with hq | hq
    · exact hf q hq
    · exact t1.sub q (a3.subset hq)
  · have l1 : ρ1.set i (.ow o) = ρ1 := List.set_eq_of_length_le (Nat.le_of_not_lt hl)
    have l2 : σ.set i (some (.ref a)) = σ := List.set_eq_of_length_le (by rw [s1.rs.length]; exact Nat.le_of_not_lt hl)
    have p' := p F1 H1 (σ.set i (some (.ref a))) S1 t1
    show D.nx (σ.set i (some (.ref a))) H1
    rw [l2] at p' pin ⊢
    refine p' ?_ pin
    show SR cl K F1 H1 σ (ρ1.set i (.ow o)) S1
    rw [l1]
    exact s1
theorem ss_par {i j : Nat} {ta : TA} {a : DA} (h : SdA cl K ta a) (hi : pn.contains i = false) (hj : pn.contains j = false) : SdS cl K W pn (tPar i j ta) (dPar i j a) := fun F H σ ρ S s fl ρ' he D p => by
  simp only [dPar, Option.bind_eq_some_iff, Option.map_eq_some_iff] at he
  obtain ⟨⟨x, ρ1⟩, h1, ⟨y, z⟩, h2, e⟩ := he
  cases e
  refine h F H σ ρ S s _ _ h1 _ fun vs F1 H1 S1 t1 s1 r1 => ?_
  match x, h2, r1 with
  | [y', z'], h2, .cons b1 (.cons b2 .nil) =>
    cases h2
    obtain ⟨S', s', t'⟩ := s1.put_im i b1
    obtain ⟨S2, s2, t2⟩ := s'.put_im j b2
    refine ⟨_, _, rfl, p F1 H1 _ S2 ((t1.trans t').trans t2) s2 fun k hk => ?_⟩
    rw [List.getElem?_set_ne, List.getElem?_set_ne]
    · intro q
      subst q
      simp at hi
      exact hi hk
    · intro q
      subst q
      simp at hj
      exact hj hk
theorem ss_asgG {vs : List Nat} {te : TE} {e : DI} {g : TG} {d : DG} (h : SdI cl K te e) (hg : SdG cl K vs g d) (hi : apart pn vs = true) : SdS cl K W pn (tAsg te g) (dAsgG e d) := fun F H σ ρ S s fl ρ' he D p => by
  simp only [dAsgG, Option.bind_eq_some_iff, Option.map_eq_some_iff] at he
  obtain ⟨⟨x, ρ1⟩, h1, ρ2, h2, e⟩ := he
  cases e
  refine h F H σ ρ S s _ _ h1 _ fun v F1 H1 S1 t1 s1 r1 => ?_
  exact hg F1 H1 σ ρ1 S1 s1 _ _ _ r1 h2 _ fun F2 H2 σ2 S2 t2 s2 o2 => p F2 H2 σ2 S2 (t1.trans t2) s2 (o2.pin hi)
theorem ss_if {tc : TT} {t u : TS} {c : DT} {a b : DS} (hc : SdT cl K tc c) (ha : SdS cl K W pn t a) (hb : SdS cl K W pn u b) : SdS cl K W pn (tIfS tc t u) (dIfS c a b) := fun F H σ ρ S s fl ρ' h D p => by
  simp only [dIfS, Option.bind_eq_some_iff] at h
  obtain ⟨⟨x1, ρ1⟩, h1, h2⟩ := h
  refine hc F H σ ρ S s _ _ h1 _ fun F1 H1 S1 t1 s1 => ?_
  dsimp only at h2
  cases x1 with
  | true =>
    rw [if_pos rfl] at h2
    show t D σ H1
    exact ha F1 H1 σ _ S1 s1 _ _ h2 D (p.later t1 (Pin.refl _ _))
  | false =>
    rw [if_neg (show ¬ (false = true) from Bool.false_ne_true)] at h2
    show u D σ H1
    exact hb F1 H1 σ _ S1 s1 _ _ h2 D (p.later t1 (Pin.refl _ _))
theorem ss_ret {te : TE} {e : DI} (h : SdI cl K te e) : SdS cl K W pn (tRet te) (dRet e) := fun F H σ ρ S s fl ρ' he D p => by
  simp only [dRet, Option.map_eq_some_iff] at he
  obtain ⟨⟨x, ρ1⟩, h1, e⟩ := he
  cases e
  exact h F H σ ρ S s _ _ h1 _ fun v F1 H1 S1 t1 s1 r1 => p v F1 H1 σ S1 t1 s1 (Pin.refl _ _) r1
theorem ss_retE {te : TE} {e : DE} (h : SdE cl K te e) : SdS cl K W pn (tRet te) (dRetE e) := fun F H σ ρ S s fl ρ' he D p => by
  simp only [dRetE, Option.bind_eq_some_iff, Option.map_eq_some_iff] at he
  obtain ⟨⟨x, ρ1⟩, h1, o, h2, e⟩ := he
  cases e
  refine h F H σ ρ S s _ _ h1 _ fun v F1 H1 S1 t1 s1 r1 => ?_
  cases x <;> simp [asOw] at h2
  subst h2
  exact p v F1 H1 σ S1 t1 s1 (Pin.refl _ _) r1
theorem ss_retO (i : Nat) : SdS cl K W pn (tRet (tVar i)) (dRetO i) := fun F H σ ρ S s fl ρ' he D p => by
  unfold dRetO at he
  split at he
  · next o e =>
    cases he
    obtain ⟨a, fp, S0, h1, h2, h3, h4⟩ := s.rs.get_ow e
    have nd := nodup_perm_app h3 s.nd
    refine ⟨_, h1, p (.ref a) F H σ S0 (Tr.refl.less fun q hq => mem_of_perm h3 hq) ⟨s.ex, h4, (List.nodup_append.mp nd).2.1⟩ (Pin.refl _ _) ⟨a, fp, rfl, h2, nd, fun q hq => .inl (h3.mem_iff.mpr (List.mem_append_left _ hq))⟩⟩
  · cases he
theorem ss_retN : SdS cl K W pn tRetN dRetN := fun F H σ ρ S s fl ρ' he D p => by
  cases he
  exact p .non F H σ S Tr.refl s (Pin.refl _ _) .non
theorem ss_brk : SdS cl K W pn tBreak dBreak := fun F H σ ρ S s fl ρ' he D p => by
  cases he
  exact p F H σ S Tr.refl s (Pin.refl _ _)
theorem ss_cont : SdS cl K W pn tCont dCont := fun F H σ ρ S s fl ρ' he D p => by
  cases he
  exact p F H σ S Tr.refl s (Pin.refl _ _)
theorem ss_never : SdS cl K W pn tNever dNever := fun F H σ ρ S s fl ρ' he D p => by cases he
theorem ss_drop {te : TE} {e : DE} (h : SdE cl K te e) : SdS cl K W pn (tDrop te) (dDrop e) := fun F H σ ρ S s fl ρ' he D p => by
  simp only [dDrop, Option.map_eq_some_iff] at he
  obtain ⟨⟨x, ρ1⟩, h1, e⟩ := he
  cases e
  exact h F H σ ρ S s _ _ h1 _ fun v F1 H1 S1 t1 s1 r1 => p F1 H1 σ S1 t1 s1 (Pin.refl _ _)
theorem ss_aug {i : Nat} {f : Int → Int → Int} {te : TE} {e : DI} (h : SdI cl K te e) (hi : pn.contains i = false) : SdS cl K W pn (tAug i te (ipI f)) (dAug i f e) := fun F H σ ρ S s fl ρ' he D p => by
  unfold dAug at he
  split at he
  · next x ex =>
    simp only [Option.bind_eq_some_iff, Option.map_eq_some_iff] at he
    obtain ⟨⟨y, ρ1⟩, h1, z, h2, e⟩ := he
    cases e
    obtain ⟨v, hv, r⟩ := s.rs.get_im ex
    cases r
    refine ⟨_, hv, h F H σ ρ S s _ _ h1 _ fun w F1 H1 S1 t1 s1 r1 => ?_⟩
    cases y <;> simp [toI] at h2
    subst h2
    cases r1
    obtain ⟨S', s', t'⟩ := s1.put_im i (.int (f x _))
    refine ⟨_, _, rfl, rfl, p F1 H1 _ S' (t1.trans t') s' fun j hj => List.getElem?_set_ne fun q => ?_⟩
    subst q
    simp at hi
    exact hi hj
  · cases he
theorem ss_for {vs : List Nat} {w : TI} {l : DL_} {g : TG} {d : DG} {t : TS} {b : DS} (hl : SdL cl K w l) (hg : SdG cl K vs g d) (hb : SdS cl K W pn t b) (hi : apart pn vs = true) : SdS cl K W pn (tFor w g t) (dFor l d b) := fun F H σ ρ S s fl ρ' he D p => by
  simp only [dFor, Option.bind_eq_some_iff] at he
  obtain ⟨⟨ds, ρ1⟩, h1, h2⟩ := he
  refine hl F H σ ρ S s _ _ h1 _ fun J F1 H1 S1 t1 s1 ok => ?_
  dsimp only at h2
  refine ⟨fun i m σ' H' => i + m = ds.length ∧ ∃ F' ρa S', Tr F1 H1 S1 F' H' S' ∧ SR cl K F' H' σ' ρa S' ∧ Pin pn σ σ' ∧ dLoop d b (ds.drop i) ρa = some (fl, ρ'), ⟨ds.length, by simp, F1, ρ1, S1, Tr.refl, s1, Pin.refl _ _, h2⟩, ?_⟩
  rintro i m σ' H' ⟨hm, F', ρa, S', t', s', q', hd⟩
  obtain ⟨ok1, ok2⟩ := ok F' H' t'.ex s'.ex
  cases hx : ds[i]? with
  | none =>
    have hle : ds.length ≤ i := List.getElem?_eq_none_iff.mp hx
    have hi' : i = ds.length := by omega
    subst hi'
    left
    rw [List.drop_length] at hd
    cases hd
    exact ⟨ok2, p F' H' σ' S' (t1.trans t') s' q'⟩
  | some x =>
    right
    obtain ⟨go, yl⟩ := ok1 i x hx
    refine ⟨go, fun σ2 H2 => ∃ F2 ρ2 S2, Tr F1 H1 S1 F2 H2 S2 ∧ SR cl K F2 H2 σ2 ρ2 S2 ∧ Pin pn σ σ2 ∧ dLoop d b (ds.drop (i + 1)) ρ2 = some (fl, ρ'), ?_, ?_⟩
    · rintro σ2 H2 h
      have := (List.getElem?_eq_some_iff.mp hx).1
      exact ⟨m - 1, by omega, by omega, h⟩
    · intro v H2 hy
      obtain ⟨F2, tn, rv⟩ := yl v H2 hy
      obtain ⟨hlt, hgx⟩ := List.getElem?_eq_some_iff.mp hx
      rw [List.drop_eq_getElem_cons hlt, hgx] at hd
      simp only [dLoop, Option.bind_eq_some_iff] at hd
      obtain ⟨ρ2, e1, ⟨fl2, ρ3⟩, e2, e3⟩ := hd
      refine hg F2 H2 σ' ρa S' (tn.sr s') _ _ _ rv e1 _ fun F3 H3 σ3 S3 t3 s3 o3 => ?_
      have t03 : Tr F1 H1 S1 F3 H3 S3 := (t'.then tn).trans t3
      have q3 : Pin pn σ σ3 := q'.trans (o3.pin hi)
      refine hb F3 H3 σ3 ρ2 S3 s3 _ _ e2 _ ?_
      cases fl2 with
      | nx => exact fun F4 H4 σ4 S4 t4 s4 q4 => ⟨F4, ρ3, S4, t03.trans t4, s4, q3.trans q4, e3⟩
      | ct => exact fun F4 H4 σ4 S4 t4 s4 q4 => ⟨F4, ρ3, S4, t03.trans t4, s4, q3.trans q4, e3⟩
      | bk =>
        cases e3
        exact fun F4 H4 σ4 S4 t4 s4 q4 => p F4 H4 σ4 S4 (t1.trans (t03.trans t4)) s4 (q3.trans q4)
      | rt r =>
        cases e3
        exact fun v F4 H4 σ4 S4 t4 s4 q4 r4 => p v F4 H4 σ4 S4 (t1.trans (t03.trans t4)) s4 (q3.trans q4) (r4.back (t1.trans t03))
      | xc c d =>
        cases e3
        exact fun od F4 H4 σ4 S4 t4 s4 q4 x4 => p od F4 H4 σ4 S4 (t1.trans (t03.trans t4)) s4 (q3.trans q4) x4
theorem ss_while {tc : TT} {t : TS} {c : DT} {b : DS} (n : Nat) (hc : SdT cl K tc c) (hb : SdS cl K W pn t b) : SdS cl K W pn (tWhile tc t) (dWhileN c b n) := fun F H σ ρ S s fl ρ' he D p => by
  refine ⟨fun m σ' H' => ∃ F' ρa S', Tr F H S F' H' S' ∧ SR cl K F' H' σ' ρa S' ∧ Pin pn σ σ' ∧ dWhileN c b m ρa = some (fl, ρ'), ⟨n, F, ρ, S, Tr.refl, s, Pin.refl _ _, he⟩, ?_⟩
  rintro m σ' H' ⟨F', ρa, S', t', s', q', hd⟩
  cases m with
  | zero => cases hd
  | succ m =>
    simp only [dWhileN, Option.bind_eq_some_iff] at hd
    obtain ⟨⟨x, ρ1⟩, h1, h2⟩ := hd
    refine hc F' H' σ' ρa S' s' _ _ h1 _ fun F1 H1 S1 t1 s1 => ?_
    dsimp only at h2
    cases x with
    | false =>
      rw [if_neg (show ¬ (false = true) from Bool.false_ne_true)] at h2
      cases h2
      rw [if_neg Bool.false_ne_true]
      exact p F1 H1 σ' S1 (t'.trans t1) s1 q'
    | true =>
      rw [if_pos rfl] at h2
      simp only [Option.bind_eq_some_iff] at h2
      obtain ⟨⟨fl2, ρ3⟩, e2, e3⟩ := h2
      rw [if_pos rfl]
      refine ⟨fun σ2 H2 => ∃ F2 ρ2 S2, Tr F H S F2 H2 S2 ∧ SR cl K F2 H2 σ2 ρ2 S2 ∧ Pin pn σ σ2 ∧ dWhileN c b m ρ2 = some (fl, ρ'), fun σ2 H2 h => ⟨m, Nat.lt_succ_self _, h⟩, ?_⟩
      refine hb F1 H1 σ' ρ1 S1 s1 _ _ e2 _ ?_
      cases fl2 with
      | nx => exact fun F4 H4 σ4 S4 t4 s4 q4 => ⟨F4, ρ3, S4, (t'.trans t1).trans t4, s4, q'.trans q4, e3⟩
      | ct => exact fun F4 H4 σ4 S4 t4 s4 q4 => ⟨F4, ρ3, S4, (t'.trans t1).trans t4, s4, q'.trans q4, e3⟩
      | bk =>
        cases e3
        exact fun F4 H4 σ4 S4 t4 s4 q4 => p F4 H4 σ4 S4 ((t'.trans t1).trans t4) s4 (q'.trans q4)
      | rt r =>
        cases e3
        exact fun v F4 H4 σ4 S4 t4 s4 q4 r4 => p v F4 H4 σ4 S4 ((t'.trans t1).trans t4) s4 (q'.trans q4) (r4.back (t'.trans t1))
      | xc c d =>
        cases e3
        exact fun od F4 H4 σ4 S4 t4 s4 q4 x4 => p od F4 H4 σ4 S4 ((t'.trans t1).trans t4) s4 (q'.trans q4) x4
end
end DL

set_option Elab.async false
set_option linter.all false
set_option maxRecDepth 100000
set_option maxHeartbeats 1000000
/-! DLd: comprehensions, slices, calls, defs -/
namespace DL
open PySem L2 Evl

theorem wipe_in {σ : L2.St} {i : Nat} : ∀ {vs : List Nat}, i ∈ vs → i < σ.length → (wipe σ vs)[i]? = some none
  | v :: vs, h, hl => by
    unfold wipe
    by_cases e : v = i
    · subst e
      rw [List.getElem?_set_self]
      rw [wipe_length]
      exact hl
    · rw [List.getElem?_set_ne e]
      rcases List.mem_cons.mp h with h | h
      · exact absurd h.symm e
      · exact wipe_in h hl
theorem wipe_only {σ σ2 : L2.St} {vs : List Nat} (o : Only vs (wipe σ vs) σ2) : wipe σ2 vs = wipe σ vs := by
  refine List.ext_getElem? fun i => ?_
  have hl : σ2.length = σ.length := o.1.trans (wipe_length σ vs)
  by_cases h : i ∈ vs
  · by_cases hi : i < σ.length
    · rw [wipe_in h hi, wipe_in h (by rw [hl]; exact hi)]
    · rw [List.getElem?_eq_none (by rw [wipe_length, hl]; omega), List.getElem?_eq_none (by rw [wipe_length]; omega)]
  · rw [wipe_out h, wipe_out h, o.2 i h, wipe_out h]
section
variable {cl : Nat → Addr} {K : PySem.W.Frag} {W : WX} {pn : List Nat}
/-- slots that are dropped -/
theorem RSs.wipe {F H : Hp} {σ : L2.St} {ρ : DEnv} {S : List Addr} (r : RSs cl K F H σ ρ S) : ∀ vs : List Nat, ∃ S0, RSs cl K F H (wipe σ vs) (wipeD ρ vs) S0 ∧ S0.Sublist S
  | [] => ⟨S, r, .refl _⟩
  | v :: vs => by
    obtain ⟨S0, a, b⟩ := RSs.wipe r vs
    obtain ⟨S1, c, d⟩ := a.drop v none
    exact ⟨S1, c, d.trans b⟩
theorem RSs.unwipe {F H : Hp} : ∀ {σ : L2.St} {ρ : DEnv} {S : List Addr} (vs : List Nat), RSs cl K F H (L2.wipe σ vs) ρ S → (∀ i ∈ vs, ∀ s, ρ[i]? = some s → s = .un) → ∃ S0, RSs cl K F H σ ρ S0 ∧ S0.Sublist S
  | σ, ρ, S, [], r, _ => ⟨S, r, .refl _⟩
  | σ, ρ, S, v :: vs, r, h => by
    unfold L2.wipe at r
    cases e : (L2.wipe σ vs)[v]? with
    | none =>
      have e' : (L2.wipe σ vs).set v none = L2.wipe σ vs := List.set_eq_of_length_le (List.getElem?_eq_none_iff.mp e)
      rw [e'] at r
      exact RSs.unwipe vs r fun i hi => h i (.tail _ hi)
    | some ov =>
      obtain ⟨S1, a, b⟩ := r.drop v ov
      rw [List.set_set, set_self e] at a
      have hu : ρ.set v .un = ρ := by
        cases q : ρ[v]? with
        | none => exact List.set_eq_of_length_le (List.getElem?_eq_none_iff.mp q)
        | some s =>
          have := h v (.head _) s q
          subst this
          exact set_self q
      rw [hu] at a
      obtain ⟨S2, c, d⟩ := RSs.unwipe vs a fun i hi => h i (.tail _ hi)
      exact ⟨S2, c, d.trans b⟩
theorem wipeD_un : ∀ (vs : List Nat) (ρ : DEnv) (i : Nat), i ∈ vs → ∀ s, (wipeD ρ vs)[i]? = some s → s = .un
  | v :: vs, ρ, i, h, s, e => by
    unfold wipeD at e
    by_cases q : v = i
    · subst q
      have hl := (List.getElem?_eq_some_iff.mp e).1
      rw [List.getElem?_set_self (by simpa using hl)] at e
      exact (Option.some.inj e).symm
    · rw [List.getElem?_set_ne q] at e
      rcases List.mem_cons.mp h with h | h
      · exact absurd h.symm q
      · exact wipeD_un vs ρ i h s e
theorem dTurns_un {g : DG} {t : DT} {e : DI} {vs : List Nat} : ∀ {ds : List PyData} {ρ : DEnv} {acc out : List PyData} {ρ' : DEnv}, dTurns g t e vs ds ρ acc = some (out, ρ') → (∀ i ∈ vs, ∀ s, ρ[i]? = some s → s = .un) → ∀ i ∈ vs, ∀ s, ρ'[i]? = some s → s = .un
  | [], _, _, _, _, h, u => by cases h; exact u
  | d :: ds, _, _, _, _, h, u => by
    simp only [dTurns, Option.bind_eq_some_iff] at h
    obtain ⟨ρ1, h1, ⟨b, ρ2⟩, h2, h3⟩ := h
    split at h3
    · simp only [Option.bind_eq_some_iff] at h3
      obtain ⟨⟨x, ρ3⟩, h4, h5⟩ := h3
      split at h5
      · exact dTurns_un h5 (wipeD_un vs _)
      · cases h5
    · exact dTurns_un h3 (wipeD_un vs _)
/-- Tr for a wiped state: what the state owns -/
theorem SR.wipe {F H : Hp} {σ : L2.St} {ρ : DEnv} {S : List Addr} (s : SR cl K F H σ ρ S) (vs : List Nat) : ∃ S0, SR cl K F H (L2.wipe σ vs) (wipeD ρ vs) S0 ∧ S0.Sublist S := by
  obtain ⟨S0, a, b⟩ := s.rs.wipe vs
  exact ⟨S0, ⟨s.ex, a, s.nd.sublist b⟩, b⟩
theorem se_lc {w : TI} {l : DL_} {g : TG} {dg : DG} {tt : TT} {t : DT} {te : TE} {e : DI} {vs : List Nat} (hl : SdL cl K w l) (hg : SdG cl K vs g dg) (ht : SdT cl K tt t) (he : SdI cl K te e) : SdE cl K (tLc w g tt te vs) (dLc l dg t e vs) := fun F H σ ρ S s x ρ' hd Q q => by
  simp only [dLc, Option.bind_eq_some_iff, Option.map_eq_some_iff] at hd
  obtain ⟨⟨ds, ρ1⟩, h1, ⟨out, ρ2⟩, h2, e0⟩ := hd
  cases e0
  refine hl F H σ ρ S s _ _ h1 _ fun J F1 H1 S1 t1 s1 ok => ?_
  intro D hD
  dsimp only at h2
  have hun := dTurns_un h2 (wipeD_un vs ρ1)
  have HD : H D = none := none_back t1.there hD
  -- the turn's word
  refine ⟨fun i m H' => i + m = ds.length ∧ ∃ F' ρa S' acc av, Ex F1 F' ∧ Tr F H S F' H' S' ∧ SR cl K F' H' (L2.wipe σ vs) ρa S' ∧ F' D = none ∧ D ∉ S' ∧ H' D = some (.lst av) ∧ RpAll F' av acc ∧ dTurns dg t e vs (ds.drop i) ρa acc = some (out, ρ2), ⟨ds.length, by simp, ?_⟩, ?_⟩
  · obtain ⟨S0, a, b⟩ := (s1.newO (o := .lst []) hD).wipe vs
    have hS : D ∉ S1 := fun hm => by
      obtain ⟨_, u, hu, _⟩ := s1.rs.own D hm
      rw [hD] at hu
      cases hu
    exact ⟨F1, _, S0, [], [], Ex.refl _, (t1.trans (Tr.newO hD)).less fun p hp => b.subset hp, a, fresh_back s1.ex hD, fun hm => hS (b.subset hm), upd_same, .nil, by simpa using h2⟩
  · rintro i m H' ⟨hm, F', ρa, S', acc, av, ex, t', s', fD, nD, hDv, ra, hd⟩
    obtain ⟨ok1, ok2⟩ := ok F' H' ex s'.ex
    cases hx : ds[i]? with
    | none =>
      have hle : ds.length ≤ i := List.getElem?_eq_none_iff.mp hx
      have hi' : i = ds.length := by omega
      subst hi'
      left
      rw [List.drop_length] at hd
      cases hd
      obtain ⟨S0, a, b⟩ := RSs.unwipe vs s'.rs hun
      refine ⟨ok2, q (.ref D) F' H' S0 (t'.less fun p hp => b.subset hp) ⟨s'.ex, a, s'.nd.sublist b⟩ ⟨D, [D], rfl, .lst fD hDv ra, ?_, ?_⟩⟩
      · exact List.nodup_cons.mpr ⟨fun hm => nD (b.subset hm), s'.nd.sublist b⟩
      · intro p hp
        cases List.mem_singleton.mp hp
        exact .inr HD
    | some x =>
      right
      obtain ⟨go, yl⟩ := ok1 i x hx
      refine ⟨go, fun H2 => ∃ F2 ρb S2 acc av, Ex F1 F2 ∧ Tr F H S F2 H2 S2 ∧ SR cl K F2 H2 (L2.wipe σ vs) ρb S2 ∧ F2 D = none ∧ D ∉ S2 ∧ H2 D = some (.lst av) ∧ RpAll F2 av acc ∧ dTurns dg t e vs (ds.drop (i + 1)) ρb acc = some (out, ρ2), ?_, ?_⟩
      · intro H2 h
        have := (List.getElem?_eq_some_iff.mp hx).1
        exact ⟨m - 1, by omega, by omega, h⟩
      · intro v H2 hy
        obtain ⟨F2, tn, rv⟩ := yl v H2 hy
        obtain ⟨hlt, hgx⟩ := List.getElem?_eq_some_iff.mp hx
        rw [List.drop_eq_getElem_cons hlt, hgx] at hd
        simp only [dTurns, Option.bind_eq_some_iff] at hd
        obtain ⟨ρb, e1, ⟨bb, ρc⟩, e2, e3⟩ := hd
        have fD2 : F2 D = none := tn.own D _ hDv rfl fD
        have hD2 : H2 D = some (.lst av) := tn.exH D _ hDv
        refine hg F2 H2 (L2.wipe σ vs) ρa S' (tn.sr s') _ _ _ rv e1 _ fun F3 H3 σ3 S3 t3 s3 o3 => ?_
        have fD3 : F3 D = none := t3.own D _ hD2 rfl fD2 nD
        have hD3 : H3 D = some (.lst av) := t3.keep D _ hD2 nD
        have nD3 : D ∉ S3 := fun hm => (t3.sub D hm).elim nD fun z => by rw [hD2] at z; cases z
        refine ⟨wipe_only o3, ?_⟩
        refine ht F3 H3 σ3 ρb S3 s3 _ _ e2 _ fun F4 H4 S4 t4 s4 => ?_
        have fD4 : F4 D = none := t4.own D _ hD3 rfl fD3 nD3
        have hD4 : H4 D = some (.lst av) := t4.keep D _ hD3 nD3
        have nD4 : D ∉ S4 := fun hm => (t4.sub D hm).elim nD3 fun z => by rw [hD3] at z; cases z
        have t04 := ((t'.then tn).trans t3).trans t4
        have ex4 : Ex F1 F4 := ((ex.trans tn.exF).trans t3.ex).trans t4.ex
        dsimp only at e3
        cases bb with
        | false =>
          rw [if_neg (show ¬ (false = true) from Bool.false_ne_true)] at e3
          rw [if_neg Bool.false_ne_true]
          obtain ⟨S0, a, b⟩ := s4.wipe vs
          rw [wipe_only o3] at a
          exact ⟨F4, _, S0, acc, av, ex4, t04.less fun p hp => b.subset hp, a, fD4, fun hm => nD4 (b.subset hm), hD4, ra.mono ((tn.exF.trans t3.ex).trans t4.ex), e3⟩
        | true =>
          rw [if_pos rfl] at e3
          simp only [Option.bind_eq_some_iff] at e3
          obtain ⟨⟨y, ρd⟩, e4, e5⟩ := e3
          rw [if_pos rfl]
          refine he F4 H4 σ3 ρc S4 s4 _ _ e4 _ fun u F5 H5 S5 t5 s5 r5 => ?_
          have fD5 : F5 D = none := t5.own D _ hD4 rfl fD4 nD4
          have hD5 : H5 D = some (.lst av) := t5.keep D _ hD4 nD4
          have nD5 : D ∉ S5 := fun hm => (t5.sub D hm).elim nD4 fun z => by rw [hD4] at z; cases z
          have t05 := t04.trans t5
          have ra5 : RpAll F5 av acc := ra.mono (((tn.exF.trans t3.ex).trans t4.ex).trans t5.ex)
          dsimp only at e5
          split at e5
          · next hlen =>
            refine ⟨av, hD5, by rw [ra5.length]; exact hlen, ?_⟩
            have exn : Ex F5 (upd H5 D (.lst (av ++ [u]))) := fun p o hp => by
              rw [upd_ne (ne_of_none hp fD5)]
              exact s5.ex p o hp
            have s6 : SR cl K F5 (upd H5 D (.lst (av ++ [u]))) σ3 ρd S5 := ⟨exn, s5.rs.frame (Ex.refl _) (fun p hp z hz => by
              rw [upd_ne (fun (w : p = D) => nD5 (w ▸ hp))]
              exact hz) (fun p hp => (s5.rs.own p hp).1), s5.nd⟩
            obtain ⟨S0, a, b⟩ := s6.wipe vs
            rw [wipe_only o3] at a
            have t06 : Tr F H S F5 (upd H5 D (.lst (av ++ [u]))) S5 := ⟨t05.ex, fun p o hp hn => by
              rw [upd_ne (ne_of_none hp HD)]
              exact t05.keep p o hp hn, fun p o hp => by
              rw [upd_ne (ne_of_none hp HD)]
              exact t05.there p o hp, t05.own, t05.sub⟩
            exact ⟨F5, _, S0, acc ++ [y], av ++ [u], ex4.trans t5.ex, t06.less fun p hp => b.subset hp, a, fD5, fun hm => nD5 (b.subset hm), upd_same, ra5.append (.one r5), e5⟩
          · cases e5
theorem st_yes : SdT cl K tYes dYes := fun F H σ ρ S s x ρ' h Q q => by
  cases h
  exact q F H S Tr.refl s

/-! slices -/
def RDS (r : V → Option Int → Option Int → Hp → VK → Prop) (f : PyData → Option Int → Option Int → Option PyData) : Prop := ∀ F H, Ex F H → ∀ x dx lo hi dz, VW F H x dx → f dx lo hi = some dz → ∀ Q : VK, (∀ v F' H', Tn F H F' H' → Rp F' v dz → Q v H') → r x lo hi H Q
theorem sd_sl {r : V → Option Int → Option Int → Hp → VK → Prop} {f : PyData → Option Int → Option Int → Option PyData} {ta : TE} {a : DI} {tl th : TO} {lo hi : DO} (hr : RDS r f) (ha : SdI cl K ta a) (hl : SdO cl K tl lo) (hh : SdO cl K th hi) :
    SdI cl K (tSl r ta tl th) (dSl f a lo hi) := fun F H σ ρ S s x ρ' h Q q => by
  simp only [dSl, Option.bind_eq_some_iff, Option.map_eq_some_iff] at h
  obtain ⟨⟨x1, ρ1⟩, h1, ⟨x2, ρ2⟩, h2, ⟨x3, ρ3⟩, h3, z, h4, e⟩ := h
  cases e
  refine ha F H σ ρ S s _ _ h1 _ fun v F1 H1 S1 t1 s1 r1 => ?_
  refine hl F1 H1 σ _ S1 s1 _ _ h2 _ fun F2 H2 S2 t2 s2 => ?_
  refine hh F2 H2 σ _ S2 s2 _ _ h3 _ fun F3 H3 S3 t3 s3 => ?_
  exact hr F3 H3 s3.ex _ _ _ _ _ (.inl ((r1.mono t2.ex).mono t3.ex)) h4 Q fun y F4 H4 t4 r4 => q y F4 H4 S3 (((t1.trans t2).trans t3).then t4) (t4.sr s3) r4
theorem sd_slN {r : V → Option Int → Option Int → Hp → VK → Prop} {f : PyData → Option Int → Option Int → Option PyData} {i : Nat} {tl th : TO} {lo hi : DO} (hr : RDS r f) (hl : SdO cl K tl lo) (hh : SdO cl K th hi) :
    SdI cl K (tSl r (tVar i) tl th) (dSlN f i lo hi) := fun F H σ ρ S s x ρ' h Q q => by
  simp only [dSlN, Option.bind_eq_some_iff, Option.map_eq_some_iff] at h
  obtain ⟨x0, h0, ⟨x2, ρ2⟩, h2, ⟨x3, ρ3⟩, h3, x1, h1, z, h4, e⟩ := h
  cases e
  obtain ⟨v, hv, _⟩ := view_vw s h0
  refine ⟨v, hv, ?_⟩
  refine hl F H σ _ S s _ _ h2 _ fun F2 H2 S2 t2 s2 => ?_
  refine hh F2 H2 σ _ S2 s2 _ _ h3 _ fun F3 H3 S3 t3 s3 => ?_
  obtain ⟨v', hv', r1⟩ := view_vw s3 h1
  rw [hv] at hv'
  cases hv'
  exact hr F3 H3 s3.ex _ _ _ _ _ r1 h4 Q fun y F4 H4 t4 r4 => q y F4 H4 S3 ((t2.trans t3).then t4) (t4.sr s3) r4

/-! calls -/
theorem RSs.appIm {F H : Hp} {dvs : List V} {dds : List PyData} (hd : RpAll F dvs dds) : ∀ {σ : L2.St} {ρ : DEnv} {S : List Addr}, RSs cl K F H σ ρ S → RSs cl K F H (σ ++ dvs.map some) (ρ ++ dds.map .im) S
  | _, _, _, .nil => by
    induction hd using RpAll.rec (motive_1 := fun _ _ _ => True) with
    | nil => exact .nil
    | cons a _ _ ih => exact .im a ih
    | non => trivial
    | bl => trivial
    | int => trivial
    | str => trivial
    | lst => trivial
    | tup => trivial
  | _, _, _, .un r => .un (r.appIm hd)
  | _, _, _, .im h r => .im h (r.appIm hd)
  | _, _, _, .ow h r => .ow h (r.appIm hd)
  | _, _, _, .scr h r => .scr h (r.appIm hd)
theorem RSs.appUn {F H : Hp} : ∀ {σ : L2.St} {ρ : DEnv} {S : List Addr} (n : Nat), RSs cl K F H σ ρ S → RSs cl K F H (σ ++ List.replicate n none) (ρ ++ List.replicate n .un) S
  | _, _, _, 0, .nil => .nil
  | _, _, _, n + 1, .nil => .un (RSs.appUn n .nil)
  | _, _, _, n, .un r => .un (r.appUn n)
  | _, _, _, n, .im h r => .im h (r.appUn n)
  | _, _, _, n, .ow h r => .ow h (r.appUn n)
  | _, _, _, n, .scr h r => .scr h (r.appUn n)
theorem take_args {F H : Hp} {σ : L2.St} : ∀ {vals : List Val} {vs : List V} {ρ : DEnv} {S : List Addr} {args : List Sl} {ρ0 : DEnv}, RSs cl K F H σ ρ S → RA F σ vs vals → takeArgs vals ρ = some (args, ρ0) →
    ∃ Sc S0, RSs cl K F H (vs.map some) args Sc ∧ RSs cl K F H σ ρ0 S0 ∧ S.Perm (Sc ++ S0)
  | [], [], ρ, S, args, ρ0, r, ra, h => by
    cases h
    exact ⟨[], S, .nil, r, .refl _⟩
  | .im d :: vals, v :: vs, ρ, S, args, ρ0, r, ra, h => by
    simp only [takeArgs, Option.map_eq_some_iff] at h
    obtain ⟨⟨as, ρ1⟩, h, e⟩ := h
    cases e
    obtain ⟨Sc, S0, a, b, c⟩ := take_args r ra.2 h
    exact ⟨Sc, S0, .im ra.1 a, b, c⟩
  | .at i :: vals, v :: vs, ρ, S, args, ρ0, r, ra, h => by
    unfold takeArgs at h
    split at h
    · next o e =>
      simp only [Option.map_eq_some_iff] at h
      obtain ⟨⟨as, ρ1⟩, h, e'⟩ := h
      cases e'
      obtain ⟨a, fp, S0, h1, h2, h3, h4⟩ := r.get_ow e
      have hv := ra.1
      rw [h1] at hv
      cases hv
      obtain ⟨Sc, S1, a1, b1, c1⟩ := take_args h4 ra.2 h
      refine ⟨fp ++ Sc, S1, .ow h2 a1, b1, h3.trans ?_⟩
      rw [List.append_assoc]
      exact c1.append_left fp
    · next ns e =>
      simp only [Option.map_eq_some_iff] at h
      obtain ⟨⟨as, ρ1⟩, h, e'⟩ := h
      cases e'
      obtain ⟨a, h1, h2⟩ := r.get_scr e
      have hv := ra.1
      rw [h1] at hv
      cases hv
      obtain ⟨Sc, S1, a1, b1, c1⟩ := take_args r ra.2 h
      exact ⟨Sc, S1, .scr h2 a1, b1, c1⟩
    · cases h
  | [], _ :: _, _, _, _, _, _, ra, _ => ra.elim
  | .im _ :: _, [], _, _, _, _, _, ra, _ => ra.elim
  | .at _ :: _, [], _, _, _, _, _, ra, _ => ra.elim
  | .nw _ :: _, _, _, _, _, _, _, _, h => by cases h
theorem put_args {F H : Hp} {σ τ : L2.St} {F0 : Hp} : ∀ {vals : List Val} {vs : List V} {args : List Sl} {ρ0 : DEnv} {S0 Sc : List Addr}, RSs cl K F H σ ρ0 S0 → RA F0 σ vs vals → RSs cl K F H (vs.map some ++ τ) args Sc → (Sc ++ S0).Nodup →
    ∃ S', RSs cl K F H σ (putArgs vals args ρ0) S' ∧ S'.Nodup ∧ ∀ p ∈ S', p ∈ Sc ∨ p ∈ S0
  | [], [], args, ρ0, S0, Sc, r, ra, rc, nd => by
    have : putArgs [] args ρ0 = ρ0 := by cases args <;> rfl
    rw [this]
    exact ⟨S0, r, (List.nodup_append.mp nd).2.1, fun p hp => .inr hp⟩
  | .im d :: vals, v :: vs, args, ρ0, S0, Sc, r, ra, rc, nd => by
    have rec' : ∀ {as Sd}, RSs cl K F H (vs.map some ++ τ) as Sd → Sd.Sublist Sc → ∃ S', RSs cl K F H σ (putArgs vals as ρ0) S' ∧ S'.Nodup ∧ ∀ p ∈ S', p ∈ Sc ∨ p ∈ S0 := fun {as Sd} rr hs => by
      obtain ⟨S', a, b, c⟩ := put_args r ra.2 rr (nd.sublist (List.Sublist.append_right hs _))
      exact ⟨S', a, b, fun p hp => (c p hp).imp (fun z => hs.subset z) id⟩
    cases rc with
    | un rr => exact rec' rr (.refl _)
    | im _ rr => exact rec' rr (.refl _)
    | ow ho rr => exact rec' rr (List.sublist_append_right _ _)
    | scr _ rr => exact rec' rr (.refl _)
  | .at i :: vals, v :: vs, args, ρ0, S0, Sc, r, ra, rc, nd => by
    have rec' : ∀ {as Sd}, RSs cl K F H (vs.map some ++ τ) as Sd → Sd.Sublist Sc → ∃ S', RSs cl K F H σ (putArgs vals as ρ0) S' ∧ S'.Nodup ∧ ∀ p ∈ S', p ∈ Sc ∨ p ∈ S0 := fun {as Sd} rr hs => by
      obtain ⟨S', a, b, c⟩ := put_args r ra.2 rr (nd.sublist (List.Sublist.append_right hs _))
      exact ⟨S', a, b, fun p hp => (c p hp).imp (fun z => hs.subset z) id⟩
    cases rc with
    | un rr => exact rec' rr (.refl _)
    | im _ rr => exact rec' rr (.refl _)
    | scr _ rr => exact rec' rr (.refl _)
    | ow ho rr =>
      rename_i a o fp Sd as
      have hi : i < ρ0.length := by
        rw [← r.length]
        exact (List.getElem?_eq_some_iff.mp ra.1).1
      obtain ⟨S1, S2, a1, a2, a3⟩ := r.put_ow i hi ho
      rw [set_self ra.1] at a1
      have nd2 : (Sd ++ S2).Nodup := by
        have h1 : (Sd ++ (fp ++ S1)).Nodup := by
          have h2 : ((fp ++ Sd) ++ S1).Nodup := nd.sublist (List.Sublist.append_left a3 _)
          have h3 : ((fp ++ Sd) ++ S1).Perm (Sd ++ (fp ++ S1)) := by
            rw [← List.append_assoc]
            exact List.Perm.append_right _ List.perm_append_comm
          exact h3.nodup_iff.mp h2
        exact (a2.append_left Sd).nodup_iff.mpr h1
      obtain ⟨S', b1, b2, b3⟩ := put_args a1 ra.2 rr nd2
      refine ⟨S', b1, b2, fun p hp => ?_⟩
      rcases b3 p hp with h | h
      · exact .inl (List.mem_append_right _ h)
      · rcases List.mem_append.mp (a2.mem_iff.mp h) with h | h
        · exact .inl (List.mem_append_left _ h)
        · exact .inr (a3.subset h)
  | [], _ :: _, _, _, _, _, _, ra, _, _ => ra.elim
  | .im _ :: _, [], _, _, _, _, _, ra, _, _ => ra.elim
  | .at _ :: _, [], _, _, _, _, _, ra, _, _ => ra.elim
  | .nw _ :: _, [], _, _, _, _, _, ra, _, _ => ra.elim
  | .nw _ :: _, _ :: _, _, _, _, _, _, ra, _, _ => ra.elim
theorem RA.length {F : Hp} {σ : L2.St} : ∀ {vs : List V} {vals : List Val}, RA F σ vs vals → vs.length = vals.length
  | [], [], _ => rfl
  | _ :: _, .im _ :: _, h => congrArg (· + 1) (RA.length h.2)
  | _ :: _, .at _ :: _, h => congrArg (· + 1) (RA.length h.2)
  | [], .im _ :: _, h => h.elim
  | [], .at _ :: _, h => h.elim
  | [], .nw _ :: _, h => h.elim
  | _ :: _, [], h => h.elim
  | _ :: _, .nw _ :: _, h => h.elim
theorem se_call {np : Nat} {m : FS} {ta : TA} {a : DAr} {dvs : List V} {dds : List PyData} {E : XK} (hd : ∀ F, RpAll F dvs dds) (ha : SdAr cl K ta a) (hn : ∀ ρ r, a ρ = some r → r.1.length + dds.length = np) : SdE cl K (tCall (toSp cl K np m) dvs E ta) (dCall m dds a) := fun F H σ ρ S s x ρ' h Q q => by
  simp only [dCall, Option.bind_eq_some_iff, Option.map_eq_some_iff] at h
  obtain ⟨⟨vals, ρ1⟩, h1, ⟨args, ρ0⟩, h2, ⟨r, args'⟩, h3, val, h4, e⟩ := h
  cases e
  refine ha F H σ ρ S s _ _ h1 _ fun vs F1 H1 S1 t1 s1 ra => ?_
  obtain ⟨Sc, S0, rc, r0, perm⟩ := take_args s1.rs ra h2
  have nd := nodup_perm_app perm s1.nd
  refine ⟨?_, F1, args ++ dds.map .im, Sc, r, args', ⟨s1.ex, ?_, (List.nodup_append.mp nd).1⟩, h3, fun v F2 H2 S2 t2 s2 rr => ?_⟩
  · rw [List.length_append, ra.length, (hd F1).length]
    exact hn _ _ h1
  · rw [List.map_append]
    exact rc.appIm (hd F1)
  have own0 : ∀ p ∈ S0, p ∉ Sc ∧ F1 p = none ∧ ∃ u, H1 p = some u ∧ isTup u = false := fun p hp => ⟨fun hc => (List.nodup_append.mp nd).2.2 p hc p hp rfl, r0.own p hp⟩
  have r0' : RSs cl K F2 H2 σ ρ0 S0 := r0.frame t2.ex (fun p hp u hu => t2.keep p u hu (own0 p hp).1) fun p hp => by
    obtain ⟨a1, a2, u, a3, a4⟩ := own0 p hp
    exact t2.own p u a3 a4 a2 a1
  have dis : ∀ p, p ∈ Sc ∨ H1 p = none → p ∉ S0 := fun p hp h0 => by
    obtain ⟨a1, a2, u, a3, _⟩ := own0 p h0
    rcases hp with hp | hp
    · exact a1 hp
    · rw [a3] at hp
      cases hp
  have nd2 : (S2 ++ S0).Nodup := List.nodup_append.mpr ⟨s2.nd, (List.nodup_append.mp nd).2.1, fun p hp p' hp' e => dis p (t2.sub p hp) (e ▸ hp')⟩
  have rs2 := s2.rs
  rw [List.map_append] at rs2
  obtain ⟨S3, b1, b2, b3⟩ := put_args r0' ra rs2 nd2
  have hin : ∀ p, p ∈ Sc → p ∈ S1 := fun p hp => perm.mem_iff.mpr (List.mem_append_left _ hp)
  have t3 : Tr F1 H1 S1 F2 H2 S3 := ⟨t2.ex, fun p o hp hn => t2.keep p o hp fun z => hn (hin p z), t2.there, fun p o hp hi hf hn => t2.own p o hp hi hf fun z => hn (hin p z), fun p hp => by
    rcases b3 p hp with hp | hp
    · exact (t2.sub p hp).imp (hin p) id
    · exact .inl (mem_of_perm perm hp)⟩
  refine q v F2 H2 S3 (t1.trans t3) ⟨s2.ex, b1, b2⟩ ?_
  cases r with
  | im d =>
    cases h4
    exact rr
  | ow o =>
    cases h4
    obtain ⟨p, fp, e, ho, ndr, hf⟩ := rr
    refine ⟨p, fp, e, ho, List.nodup_append.mpr ⟨(List.nodup_append.mp ndr).1, b2, fun x hx y hy e' => ?_⟩, fun z hz => ?_⟩
    · subst e'
      rcases b3 x hy with h | h
      · exact (List.nodup_append.mp ndr).2.2 x hx x h rfl
      · exact dis x (hf x hx) h
    · rcases hf z hz with h | h
      · exact t1.sub z (hin z h)
      · exact .inr (none_back t1.there h)
  | un => cases h4
  | scr ns => cases h4

/-! a def's body -/
theorem mask_ok {F H : Hp} {own : List Nat} : ∀ (vs : List V) (j : Nat) {σ' : L2.St} {ρ' : DEnv} {S' : List Addr}, RSs cl K F H σ' ρ' S' → (∀ i, i < vs.length → own.contains (j + i) = true → σ'[i]? = some (vs[i]?)) → ∃ S0, RSs cl K F H (vs.map some) (maskO own j vs.length ρ') S0 ∧ S0.Sublist S'
  | [], j, σ', ρ', S', r, h => ⟨[], .nil, List.nil_sublist _⟩
  | v :: vs, j, _, _, _, .nil, h => by
    obtain ⟨S0, a, b⟩ := mask_ok vs (j + 1) (σ' := []) (ρ' := []) (S' := []) .nil fun i hi ho => by
      have := h (i + 1) (by simpa using hi) (by rw [← ho]; congr 1; omega)
      simp at this
    exact ⟨S0, .un a, b⟩
  | v :: vs, j, ov :: σ', s :: ρ', S', r, h => by
    have tl : ∀ {Sd}, RSs cl K F H σ' ρ' Sd → ∃ S0, RSs cl K F H (vs.map some) (maskO own (j + 1) vs.length ρ') S0 ∧ S0.Sublist Sd := fun rr => mask_ok vs (j + 1) rr fun i hi ho => by
      have := h (i + 1) (by simpa using hi) (by rw [← ho]; congr 1; omega)
      simpa using this
    show ∃ S0, RSs cl K F H (some v :: vs.map some) ((if own.contains j = true then s else .un) :: maskO own (j + 1) vs.length ρ') S0 ∧ S0.Sublist S'
    by_cases ho : own.contains j = true
    · have e := h 0 (by simp) (by simpa using ho)
      simp at e
      subst e
      rw [if_pos ho]
      cases r with
      | un rr => obtain ⟨S0, a, b⟩ := tl rr; exact ⟨S0, .un a, b⟩
      | im q rr => obtain ⟨S0, a, b⟩ := tl rr; exact ⟨S0, .im q a, b⟩
      | scr q rr => obtain ⟨S0, a, b⟩ := tl rr; exact ⟨S0, .scr q a, b⟩
      | ow q rr => obtain ⟨S0, a, b⟩ := tl rr; exact ⟨_, .ow q a, List.Sublist.append_left b _⟩
    · rw [if_neg ho]
      cases r with
      | un rr => obtain ⟨S0, a, b⟩ := tl rr; exact ⟨S0, .un a, b⟩
      | im q rr => obtain ⟨S0, a, b⟩ := tl rr; exact ⟨S0, .un a, b⟩
      | scr q rr => obtain ⟨S0, a, b⟩ := tl rr; exact ⟨S0, .un a, b⟩
      | ow q rr => obtain ⟨S0, a, b⟩ := tl rr; exact ⟨S0, .un a, b.trans (List.sublist_append_right _ _)⟩
theorem fn_reads {np : Nat} {N : List Str} {own : List Nat} {t : TS} {b : DS} (hb : SdS cl K W own t b) (ho : own.all (fun i => decide (i < np)) = true) {vs : List V} {H : Hp} {Q : VK} {E : XK} (h : toSp cl K np (dFn N.length own b) vs H Q E) : t { nx := fun _ H' => Q .non H', rt := Q } (L2.start N vs) H := by
  obtain ⟨hnp, F, args, S, r, args', s, hm, k⟩ := h
  have hlen : vs.length = args.length := by
    have := s.rs.length
    rw [List.length_map] at this
    exact this
  simp only [dFn, Option.bind_eq_some_iff] at hm
  obtain ⟨⟨fl, ρ'⟩, h1, h2⟩ := hm
  have s0 : SR cl K F H (L2.start N vs) (args ++ List.replicate (N.length - args.length) .un) S := by
    unfold L2.start
    rw [hlen]
    exact ⟨s.ex, s.rs.appUn _, s.nd⟩
  have fin : ∀ {F' H' σ' S'}, SR cl K F' H' σ' ρ' S' → Pin own (L2.start N vs) σ' → ∃ S0, SR cl K F' H' (vs.map some) (maskO own 0 args.length ρ') S0 ∧ S0.Sublist S' := fun {F' H' σ' S'} s' p => by
    rw [← hlen]
    obtain ⟨S0, a, b⟩ := mask_ok (own := own) vs 0 s'.rs fun i hi hc => by
      rw [Nat.zero_add] at hc
      rw [p i (by simpa using hc)]
      unfold L2.start
      rw [List.getElem?_append_left (by rw [List.length_map]; exact hi), List.getElem?_map]
      rw [List.getElem?_eq_getElem hi]
      rfl
    exact ⟨S0, ⟨s'.ex, a, s'.nd.sublist b⟩, b⟩
  refine hb F H _ _ S s0 _ _ h1 _ ?_
  cases fl with
  | nx =>
    cases h2
    intro F' H' σ' S' t' s' p'
    obtain ⟨S0, a, b⟩ := fin s' p'
    exact k .non F' H' S0 (t'.less fun q hq => b.subset hq) a .non
  | rt r' =>
    cases h2
    intro v F' H' σ' S' t' s' p' rr
    obtain ⟨S0, a, b⟩ := fin s' p'
    refine k v F' H' S0 (t'.less fun q hq => b.subset hq) a ?_
    cases r with
    | im d => exact rr
    | un => exact rr
    | scr ns => exact rr
    | ow o =>
      obtain ⟨p, fp, e, ho, nd, hf⟩ := rr
      exact ⟨p, fp, e, ho, nd.sublist (List.Sublist.append_left b _), hf⟩
  | bk => cases h2
  | ct => cases h2
  | xc c d => cases h2
end
end DL

set_option Elab.async false
set_option linter.all false
set_option maxRecDepth 100000
set_option maxHeartbeats 1000000
/-! DLe: operations on data -/
namespace DL
open PySem L2 Evl

section
variable {cl : Nat → Addr} {K : PySem.W.Frag} {F H : Hp}
/-! ints -/
def fI (g : Int → Int → PyData) : PyData → PyData → Option PyData
  | .int i, .int j => some (g i j)
  | _, _ => none
def fIC (c : Int → Int → Bool) (g : Int → Int → PyData) : PyData → PyData → Option PyData
  | .int i, .int j => if c i j = true then some (g i j) else none
  | _, _ => none
theorem rd_I0 {g : Int → Int → V} {g' : Int → Int → PyData} (h : ∀ i j F, Rp F (g i j) (g' i j)) : RD2 (rI0 g) (fI g') := fun F H e x y dx dy dz hx hy hf Q q => by
  cases dx <;> cases dy <;> simp [fI] at hf
  subst hf
  exact ⟨_, _, hx.int, hy.int, q _ F H (Tn.refl e) (h _ _ _)⟩
theorem rd_I {C : Int → Int → Prop} {c : Int → Int → Bool} {g : Int → Int → V} {g' : Int → Int → PyData} (hc : ∀ i j, c i j = true → C i j) (h : ∀ i j F, Rp F (g i j) (g' i j)) : RD2 (rI C g) (fIC c g') := fun F H e x y dx dy dz hx hy hf Q q => by
  cases dx <;> cases dy <;> simp [fIC] at hf
  obtain ⟨h1, hf⟩ := hf
  subst hf
  exact ⟨_, _, hx.int, hy.int, hc _ _ h1, q _ F H (Tn.refl e) (h _ _ _)⟩
def fAdd := fI fun i j => .int (i + j)
def fSub := fI fun i j => .int (i - j)
def cMul (i j : Int) : Bool := decide (-(2 ^ 64) < i ∧ i < 2 ^ 64) || decide (-(2 ^ 64) < j ∧ j < 2 ^ 64)
def fMul := fIC cMul fun i j => .int (i * j)
def cDiv (i j : Int) : Bool := decide (0 < j ∧ j < 1073741824)
def fDiv := fIC cDiv fun i j => .int (i / j)
def cMod (i j : Int) : Bool := decide (0 < j)
def fMod := fIC cMod fun i j => .int (i % j)
def cPow (i j : Int) : Bool := decide (0 ≤ j ∧ j ≤ 1000000 ∧ i.natAbs < 2 ^ 64)
def fPow := fIC cPow fun i j => .int (i ^ j.toNat)
def fLt := fI fun i j => .bool (decide (i < j))
def fLe := fI fun i j => .bool (decide (i ≤ j))
def fGt := fI fun i j => .bool (decide (j < i))
def fGe := fI fun i j => .bool (decide (j ≤ i))
theorem rd_add : RD2 (rI0 fun i j => .int (i + j)) fAdd := rd_I0 fun _ _ _ => .int _
theorem rd_sub : RD2 (rI0 fun i j => .int (i - j)) fSub := rd_I0 fun _ _ _ => .int _
theorem rd_mul : RD2 (rI CMul fun i j => .int (i * j)) fMul := rd_I (fun i j h => by simp [cMul] at h; exact h) fun _ _ _ => .int _
theorem rd_div : RD2 (rI CDiv fun i j => .int (i / j)) fDiv := rd_I (fun i j h => by simp [cDiv] at h; exact h) fun _ _ _ => .int _
theorem rd_mod : RD2 (rI (fun _ j => 0 < j) fun i j => .int (i % j)) fMod := rd_I (fun i j h => by simp [cMod] at h; exact h) fun _ _ _ => .int _
theorem rd_pow : RD2 (rI CPow fun i j => .int (i ^ j.toNat)) fPow := rd_I (fun i j h => by simp [cPow] at h; exact h) fun _ _ _ => .int _
theorem rd_lt : RD2 (rI0 fun i j => .bl (decide (i < j))) fLt := rd_I0 fun _ _ _ => .bl _
theorem rd_le : RD2 (rI0 fun i j => .bl (decide (i ≤ j))) fLe := rd_I0 fun _ _ _ => .bl _
theorem rd_gt : RD2 (rI0 fun i j => .bl (decide (j < i))) fGt := rd_I0 fun _ _ _ => .bl _
theorem rd_ge : RD2 (rI0 fun i j => .bl (decide (j ≤ i))) fGe := rd_I0 fun _ _ _ => .bl _
def fNeg : PyData → Option PyData
  | .int i => some (.int (-i))
  | _ => none
theorem rd_neg : RD1 (rU fun i => .int (-i)) fNeg := fun F H e x dx dz hx hf Q q => by
  cases dx <;> simp [fNeg] at hf
  subst hf
  exact ⟨_, hx.int, q _ F H (Tn.refl e) (.int _)⟩
/-! == -/
def eqD : PyData → PyData → Option Bool
  | .int i, .int j => some (decide (i = j))
  | .bool i, .bool j => some (decide (i = j))
  | .str i, .str j => some (decide (i = j))
  | .none, .int _ => some false
  | .int _, .none => some false
  | .none, .none => some true
  | d, e => if SeqAt.shaped d = true ∧ SeqAt.shaped e = true then some (PyData.eqv d e) else none
theorem shaped_leaf : SeqAt.shaped .none = true ∧ (∀ b, SeqAt.shaped (.bool b) = true) ∧ ∀ i, SeqAt.shaped (.int i) = true := by
  refine ⟨?_, fun b => ?_, fun i => ?_⟩ <;> simp [SeqAt.shaped, PyData.canLay0, PyData.depth]
theorem eqD_ok {d e : PyData} {b : Bool} (h : eqD d e = some b) : (SeqAt.shaped d = true ∧ SeqAt.shaped e = true ∧ PyData.eqv d e = b) ∨ ∃ x y, d = .str x ∧ e = .str y ∧ decide (x = y) = b := by
  obtain ⟨s0, s1, s2⟩ := shaped_leaf
  unfold eqD at h
  split at h
  · cases h; exact .inl ⟨s2 _, s2 _, by rw [PyData.eqv, Bool.beq_eq_decide_eq]⟩
  · cases h; exact .inl ⟨s1 _, s1 _, by rw [PyData.eqv, Bool.beq_eq_decide_eq]⟩
  · cases h; exact .inr ⟨_, _, rfl, rfl, rfl⟩
  · cases h; exact .inl ⟨s0, s2 _, by simp [PyData.eqv]⟩
  · cases h; exact .inl ⟨s2 _, s0, by simp [PyData.eqv]⟩
  · cases h; exact .inl ⟨s0, s0, by simp [PyData.eqv]⟩
  · split at h
    · next hs => cases h; exact .inl ⟨hs.1, hs.2, rfl⟩
    · cases h
def fEq (d e : PyData) : Option PyData := (eqD d e).map .bool
def fNe (d e : PyData) : Option PyData := (eqD d e).map fun b => .bool (!b)
/-- == by data, or of two texts -/
def rEqB (K : PySem.W.Frag) : R2 := fun x y H Q => rEqD K x y H Q ∨ rEq x y H Q
def rNeB (K : PySem.W.Frag) : R2 := fun x y H Q => rNeD K x y H Q ∨ rNe x y H Q
theorem op_eqB {X : Cx} (hu : X.A.units + 64 < cLine) : OpR X (compareOp .Eq) (rEqB X.K) := OpR.or (op_eqD hu) op_eq
theorem op_neB {X : Cx} (hu : X.A.units + 64 < cLine) : OpR X (compareOp .NotEq) (rNeB X.K) := OpR.or (op_neD hu) op_ne
theorem dec_strs (x y : Str) : decide (V.str x = V.str y) = decide (x = y) := by
  by_cases h : x = y
  · subst h; simp
  · rw [decide_eq_false h, decide_eq_false fun q => h (V.str.inj q)]
theorem rd_eq : RD2 (rEqB K) fEq := fun F H e x y dx dy dz hx hy hf Q q => by
  simp only [fEq, Option.map_eq_some_iff] at hf
  obtain ⟨b, h, rfl⟩ := hf
  rcases eqD_ok h with ⟨h1, h2, h3⟩ | ⟨u, v, rfl, rfl, h3⟩
  · refine .inl ⟨dx, dy, hx.dp e, hy.dp e, h1, h2, ?_⟩
    rw [h3]
    exact q _ F H (Tn.refl e) (.bl b)
  · rw [hx.str, hy.str]
    refine .inr ⟨rfl, ?_⟩
    rw [dec_strs, h3]
    exact q _ F H (Tn.refl e) (.bl b)
theorem rd_ne : RD2 (rNeB K) fNe := fun F H e x y dx dy dz hx hy hf Q q => by
  simp only [fNe, Option.map_eq_some_iff] at hf
  obtain ⟨b, h, rfl⟩ := hf
  rcases eqD_ok h with ⟨h1, h2, h3⟩ | ⟨u, v, rfl, rfl, h3⟩
  · refine .inl ⟨dx, dy, hx.dp e, hy.dp e, h1, h2, ?_⟩
    rw [h3]
    exact q _ F H (Tn.refl e) (.bl _)
  · rw [hx.str, hy.str]
    refine .inr ⟨rfl, ?_⟩
    rw [dec_strs, h3]
    exact q _ F H (Tn.refl e) (.bl _)
/-! is None -/
def isNone : PyData → Bool
  | .none => true
  | _ => false
theorem isNone_ok {x : V} {d : PyData} (h : VW F H x d) : decide (x = .non) = isNone d := by
  rcases h with h | ⟨p, vs, es, rfl, rfl, _⟩
  · cases h <;> rfl
  · rfl
def fIs (d e : PyData) : Option PyData := match e with
  | .none => some (.bool (isNone d))
  | _ => none
def fIsNot (d e : PyData) : Option PyData := match e with
  | .none => some (.bool (!isNone d))
  | _ => none
theorem rd_is : RD2 (fun x y H Q => y = .non ∧ Q (.bl (decide (x = .non))) H) fIs := fun F H e x y dx dy dz hx hy hf Q q => by
  cases dy <;> simp [fIs] at hf
  subst hf
  refine ⟨hy.non, ?_⟩
  rw [isNone_ok hx]
  exact q _ F H (Tn.refl e) (.bl _)
theorem rd_isNot : RD2 (fun x y H Q => y = .non ∧ Q (.bl (!decide (x = .non))) H) fIsNot := fun F H e x y dx dy dz hx hy hf Q q => by
  cases dy <;> simp [fIsNot] at hf
  subst hf
  refine ⟨hy.non, ?_⟩
  rw [isNone_ok hx]
  exact q _ F H (Tn.refl e) (.bl _)
/-! in, not in: flat things -/
def toV : PyData → Option V
  | .none => some .non
  | .bool b => some (.bl b)
  | .int i => some (.int i)
  | .str x => some (.str x)
  | _ => none
def toVs : List PyData → Option (List V)
  | [] => some []
  | d :: ds => (toV d).bind fun v => (toVs ds).map (v :: ·)
theorem toV_ok {x v : V} {d : PyData} (h : toV d = some v) (r : Rp F x d) : x = v ∧ flatV v = true := by
  cases d <;> simp [toV] at h <;> subst h <;> cases r <;> exact ⟨rfl, rfl⟩
theorem toVs_ok : ∀ {xs vs : List V} {ds : List PyData}, toVs ds = some vs → RpAll F xs ds → xs = vs ∧ vs.all flatV = true
  | _, _, [], h, .nil => by cases h; exact ⟨rfl, rfl⟩
  | _, _, d :: ds, h, .cons a b => by
    simp only [toVs, Option.bind_eq_some_iff, Option.map_eq_some_iff] at h
    obtain ⟨v, h1, vs, h2, rfl⟩ := h
    obtain ⟨rfl, f1⟩ := toV_ok h1 a
    obtain ⟨rfl, f2⟩ := toVs_ok h2 b
    exact ⟨rfl, by rw [List.all_cons, f1, f2]; rfl⟩
theorem toVs_ints : ∀ ns : List Int, toVs (ns.map .int) = some (ns.map V.int)
  | [] => rfl
  | n :: ns => by simp [toVs, toV, toVs_ints ns]
theorem toVs_strs : ∀ ns : List Str, toVs (ns.map .str) = some (ns.map V.str)
  | [] => rfl
  | n :: ns => by simp [toVs, toV, toVs_strs ns]
def seqOf : PyData → Option (List PyData)
  | .list ds => some ds
  | .tuple ds => some ds
  | _ => none
def inD (d e : PyData) : Option Bool := (toV d).bind fun v => (seqOf e).bind fun ds => (toVs ds).map fun vs => inV v vs
theorem inV_int (i : Int) (ns : List Int) : inV (.int i) (ns.map V.int) = decide (i ∈ ns) := by
  unfold inV
  induction ns with
  | nil => rfl
  | cons n ns ih =>
    rw [List.map_cons, List.any_cons, ih]
    simp only [eqV, List.mem_cons]
    by_cases h : n = i
    · subst h; simp
    · have h' : ¬ i = n := fun q => h q.symm
      simp [h, h']
theorem inD_ints (i : Int) (ns : List Int) : inD (.int i) (.list (ns.map .int)) = some (decide (i ∈ ns)) := by
  simp [inD, toV, seqOf, toVs_ints, inV_int]
def fIn (d e : PyData) : Option PyData := (inD d e).map .bool
def fNotIn (d e : PyData) : Option PyData := (inD d e).map fun b => .bool (!b)
theorem seq_vw {K : PySem.W.Frag} {y : V} {d : PyData} {ds : List PyData} (e : Ex F H) (h : VW F H y d) (hs : seqOf d = some ds) : ∃ p xs, y = .ref p ∧ (SqL K H p xs ∨ SqT K H p xs) ∧ RpAll F xs ds := by
  cases d <;> simp [seqOf] at hs
  · subst hs
    obtain ⟨p, vs, rfl, h1, h2⟩ := h.lst e
    exact ⟨p, vs, rfl, .inl (sq_of h1), h2⟩
  · subst hs
    obtain ⟨p, vs, rfl, h1, h2⟩ := h.tup e
    exact ⟨p, vs, rfl, .inr (st_of h1), h2⟩
theorem vw_flat {x v : V} {d : PyData} (h : VW F H x d) (hv : toV d = some v) : x = v ∧ flatV v = true := by
  rcases h with h | ⟨p, vs, es, rfl, rfl, _⟩
  · exact toV_ok hv h
  · cases hv
theorem rd_in : RD2 (rIn K false) fIn := fun F H e x y dx dy dz hx hy hf Q q => by
  simp only [fIn, inD, Option.map_eq_some_iff, Option.bind_eq_some_iff] at hf
  obtain ⟨b, ⟨v, h1, ds, h2, vs, h3, rfl⟩, rfl⟩ := hf
  obtain ⟨rfl, f1⟩ := vw_flat hx h1
  obtain ⟨p, xs, rfl, h4, h5⟩ := seq_vw (K := K) e hy h2
  obtain ⟨rfl, f2⟩ := toVs_ok h3 h5
  exact ⟨p, _, rfl, h4, f1, f2, q _ F H (Tn.refl e) (.bl _)⟩
theorem rd_notIn : RD2 (rIn K true) fNotIn := fun F H e x y dx dy dz hx hy hf Q q => by
  simp only [fNotIn, inD, Option.map_eq_some_iff, Option.bind_eq_some_iff] at hf
  obtain ⟨b, ⟨v, h1, ds, h2, vs, h3, rfl⟩, rfl⟩ := hf
  obtain ⟨rfl, f1⟩ := vw_flat hx h1
  obtain ⟨p, xs, rfl, h4, h5⟩ := seq_vw (K := K) e hy h2
  obtain ⟨rfl, f2⟩ := toVs_ok h3 h5
  exact ⟨p, _, rfl, h4, f1, f2, q _ F H (Tn.refl e) (.bl _)⟩
/-! index -/
theorem atI_rp {xs : List V} {ds : List PyData} {i : Int} {d : PyData} (h : RpAll F xs ds) (e : atI ds i = some d) : ∃ v, atI xs i = some v ∧ Rp F v d := by
  unfold atI at *
  rw [h.length]
  cases q : ixN ds.length i with
  | none => rw [q] at e; cases e
  | some j =>
    rw [q] at e
    exact h.get e
def fIx (d e : PyData) : Option PyData := match e with
  | .int i => (seqOf d).bind fun ds => atI ds i
  | _ => none
theorem rd_ix : RD2 (rIx K) fIx := fun F H e x y dx dy dz hx hy hf Q q => by
  cases dy <;> simp only [fIx, Option.bind_eq_some_iff] at hf
  case int i =>
    obtain ⟨ds, h1, h2⟩ := hf
    obtain ⟨p, xs, rfl, h4, h5⟩ := seq_vw (K := K) e hx h1
    obtain ⟨v, h6, h7⟩ := atI_rp h5 h2
    have hy' := hy.int
    subst hy'
    rcases h4 with h4 | h4
    · exact .inl ⟨p, xs, i, v, rfl, rfl, h4, h6, q v F H (Tn.refl e) h7⟩
    · exact .inr (.inl ⟨p, xs, i, v, rfl, rfl, h4, h6, q v F H (Tn.refl e) h7⟩)
  all_goals cases hf
/-- a sign of a text at a place -/
def fIxS (d e : PyData) : Option PyData := match d, e with
  | .str z, .int i => if z.length ≤ sizeLine then (atI z.cps.toList i).map fun c => .str ⟨#[c]⟩ else none
  | _, _ => none
theorem rd_ixS : RD2 rIxS fIxS := fun F H e x y dx dy dz hx hy hf Q q => by
  cases dx <;> cases dy <;> simp only [fIxS] at hf
  case str.int z i =>
    split at hf
    · next hl =>
      simp only [Option.map_eq_some_iff] at hf
      obtain ⟨c, h1, rfl⟩ := hf
      exact ⟨z, i, c, hx.str, hy.int, hl, h1, q _ F H (Tn.refl e) (.str _)⟩
    · cases hf
  all_goals cases hf
/-! + of lists, tuples, texts; * of a list -/
theorem frz_new {p : Addr} {vs : List V} {ds : List PyData} {Q : VK} (e : Ex F H) (r : RpAll F vs ds) (hp : H p = none) (q : ∀ v F' H', Tn F H F' H' → Rp F' v (.list ds) → Q v H') : Q (.ref p) (upd H p (.lst vs)) := by
  have t : Tn F H _ _ := Tn.new (o := .lst vs) e hp
  exact q _ _ _ t (.lst upd_same (r.mono t.exF))
theorem frz_newT {p : Addr} {vs : List V} {ds : List PyData} {Q : VK} (e : Ex F H) (r : RpAll F vs ds) (hp : H p = none) (q : ∀ v F' H', Tn F H F' H' → Rp F' v (.tuple ds) → Q v H') : Q (.ref p) (upd H p (.tup vs)) := by
  have t : Tn F H _ _ := Tn.new (o := .tup vs) e hp
  exact q _ _ _ t (.tup upd_same (r.mono t.exF))
def fCat (d e : PyData) : Option PyData := match d, e with
  | .list xs, .list ys => if xs.length + ys.length ≤ sizeLine then some (.list (xs ++ ys)) else none
  | _, _ => none
theorem rd_cat : RD2 rCat fCat := fun F H e x y dx dy dz hx hy hf Q q => by
  cases dx <;> cases dy <;> simp only [fCat] at hf
  case list.list xs ys =>
    split at hf
    · next hl =>
      cases hf
      obtain ⟨p, vs, rfl, h1, h2⟩ := hx.lst e
      obtain ⟨p', ws, rfl, h3, h4⟩ := hy.lst e
      exact ⟨p, p', vs, ws, rfl, rfl, h1, h3, by rw [h2.length, h4.length]; exact hl, fun l hl => frz_new e (h2.append h4) hl q⟩
    · cases hf
  all_goals cases hf
def fCatT (d e : PyData) : Option PyData := match d, e with
  | .tuple xs, .tuple ys => if xs.length + ys.length ≤ sizeLine then some (.tuple (xs ++ ys)) else none
  | _, _ => none
theorem rp_tup {v : V} {ds : List PyData} (h : Rp F v (.tuple ds)) : ∃ a xs, v = .ref a ∧ F a = some (.tup xs) ∧ RpAll F xs ds := by
  cases h with
  | tup h1 h2 => exact ⟨_, _, rfl, h1, h2⟩
theorem vw_tup {v : V} {ds : List PyData} (h : VW F H v (.tuple ds)) : Rp F v (.tuple ds) := by
  rcases h with h | ⟨p, vs, es, rfl, q, _⟩
  · exact h
  · cases q
theorem rd_catT : RD2 (rCatA K) fCatT := fun F H e x y dx dy dz hx hy hf Q q => by
  cases dx <;> cases dy <;> simp only [fCatT] at hf
  case tuple.tuple xs ys =>
    split at hf
    · next hl =>
      cases hf
      have hx' := vw_tup hx
      have hy' := vw_tup hy
      obtain ⟨p, vs, rfl, h1, h2⟩ := rp_tup hx'
      obtain ⟨p', ws, rfl, h3, h4⟩ := rp_tup hy'
      refine ⟨p, p', vs, ws, rfl, rfl, st_of (e _ _ h1), st_of (e _ _ h3), by rw [h2.length, h4.length]; exact hl, fun h => ?_, fun _ h => ?_, fun _ _ l hl => frz_newT e (h2.append h4) hl q⟩
      · subst h
        cases h2
        exact q _ F H (Tn.refl e) hy'
      · subst h
        cases h4
        rw [List.append_nil] at q
        exact q _ F H (Tn.refl e) hx'
    · cases hf
  all_goals cases hf
def fRep (d e : PyData) : Option PyData := match d, e with
  | .list xs, .int k => if -(2 ^ 63) ≤ k ∧ k < 2 ^ 63 ∧ xs.length * k.toNat ≤ sizeLine then some (.list (List.replicate k.toNat xs).flatten) else none
  | _, _ => none
theorem RpAll.flat {vs : List V} {ds : List PyData} (h : RpAll F vs ds) : ∀ n, RpAll F (List.replicate n vs).flatten (List.replicate n ds).flatten
  | 0 => .nil
  | n + 1 => by
    rw [List.replicate_succ, List.replicate_succ, List.flatten_cons, List.flatten_cons]
    exact h.append (h.flat n)
theorem rd_rep : RD2 rRep fRep := fun F H e x y dx dy dz hx hy hf Q q => by
  cases dx <;> cases dy <;> simp only [fRep] at hf
  case list.int xs k =>
    split at hf
    · next hl =>
      cases hf
      obtain ⟨p, vs, rfl, h1, h2⟩ := hx.lst e
      exact ⟨p, k, vs, rfl, hy.int, h1, hl.1, hl.2.1, by rw [h2.length]; exact hl.2.2, fun l hl => frz_new e (h2.flat _) hl q⟩
    · cases hf
  all_goals cases hf
def fCatS (d e : PyData) : Option PyData := match d, e with
  | .str x, .str y => if x.length + y.length ≤ sizeLine then some (.str (x ++ y)) else none
  | _, _ => none
theorem rd_catS : RD2 (fun x y H Q => ∃ i j, x = .str i ∧ y = .str j ∧ i.length + j.length ≤ sizeLine ∧ Q (.str (i ++ j)) H) fCatS := fun F H e x y dx dy dz hx hy hf Q q => by
  cases dx <;> cases dy <;> simp only [fCatS] at hf
  case str.str a b =>
    split at hf
    · next hl =>
      cases hf
      exact ⟨a, b, hx.str, hy.str, hl, q _ F H (Tn.refl e) (.str _)⟩
    · cases hf
  all_goals cases hf
/-! calls -/
def fLen (d : PyData) : Option PyData := (seqOf d).map fun ds => .int (ds.length : Int)
theorem rc_len : RC1 (rLenS K) fLen := fun F H e x dx dz hx hf Q q => by
  simp only [fLen, Option.map_eq_some_iff] at hf
  obtain ⟨ds, h1, rfl⟩ := hf
  obtain ⟨p, xs, rfl, h4, h5⟩ := seq_vw (K := K) e hx h1
  refine ⟨p, xs, rfl, h4, ?_⟩
  rw [h5.length]
  exact q _ F H (Tn.refl e) (.int _)
def fAbs : PyData → Option PyData
  | .int i => some (.int (if i < 0 then -i else i))
  | _ => none
theorem rc_abs : RC1 (fun xs H Q => ∃ i, xs = [.int i] ∧ Q (.int (if i < 0 then -i else i)) H) fAbs := fun F H e x dx dz hx hf Q q => by
  cases dx <;> simp [fAbs] at hf
  subst hf
  have := hx.int
  subst this
  exact ⟨_, rfl, q _ F H (Tn.refl e) (.int _)⟩
def fMax2 := fI fun i j => .int (if j > i then j else i)
def fMin2 := fI fun i j => .int (if j < i then j else i)
theorem rc_max2 : RC2 (fun xs H Q => ∃ i j, xs = [.int i, .int j] ∧ Q (.int (if j > i then j else i)) H) fMax2 := fun F H e x y dx dy dz hx hy hf Q q => by
  cases dx <;> cases dy <;> simp [fMax2, fI] at hf
  subst hf
  have := hx.int
  subst this
  have := hy.int
  subst this
  exact ⟨_, _, rfl, q _ F H (Tn.refl e) (.int _)⟩
theorem rc_min2 : RC2 (fun xs H Q => ∃ i j, xs = [.int i, .int j] ∧ Q (.int (if j < i then j else i)) H) fMin2 := fun F H e x y dx dy dz hx hy hf Q q => by
  cases dx <;> cases dy <;> simp [fMin2, fI] at hf
  subst hf
  have := hx.int
  subst this
  have := hy.int
  subst this
  exact ⟨_, _, rfl, q _ F H (Tn.refl e) (.int _)⟩
def intsOf (d : PyData) : Option (List Int) := (asLst d).bind asInts
theorem ints_vw {x : V} {d : PyData} {ns : List Int} (e : Ex F H) (h : VW F H x d) (hs : intsOf d = some ns) : ∃ p, x = .ref p ∧ H p = some (.lst (ns.map V.int)) := by
  simp only [intsOf, Option.bind_eq_some_iff] at hs
  obtain ⟨ds, h1, h2⟩ := hs
  cases d <;> simp [asLst] at h1
  subst h1
  obtain ⟨p, vs, rfl, h3, h4⟩ := h.lst e
  have := asInts_eq h2
  subst this
  rw [h4.ints] at h3
  exact ⟨p, rfl, h3⟩
def fSum (d : PyData) : Option PyData := (intsOf d).map fun ns => .int ns.sum
theorem rc_sum : RC1 (rSum K) fSum := fun F H e x dx dz hx hf Q q => by
  simp only [fSum, Option.map_eq_some_iff] at hf
  obtain ⟨ns, h1, rfl⟩ := hf
  obtain ⟨p, rfl, h2⟩ := ints_vw e hx h1
  exact ⟨p, ns, rfl, sq_of h2, q _ F H (Tn.refl e) (.int _)⟩
def lmax : List Int → Int
  | [] => 0
  | n :: ns => ns.foldl max n
def lmin : List Int → Int
  | [] => 0
  | n :: ns => ns.foldl min n
theorem foldl_max : ∀ (ns : List Int) (n : Int), (ns.foldl max n = n ∨ ns.foldl max n ∈ ns) ∧ n ≤ ns.foldl max n ∧ ∀ y ∈ ns, y ≤ ns.foldl max n
  | [], n => ⟨.inl rfl, Int.le_refl _, fun _ h => nomatch h⟩
  | m :: ns, n => by
    obtain ⟨h1, h2, h3⟩ := foldl_max ns (max n m)
    refine ⟨?_, by rw [List.foldl_cons]; omega, fun y hy => ?_⟩
    · rw [List.foldl_cons]
      rcases h1 with h1 | h1
      · rw [h1]
        by_cases q : n ≤ m
        · right
          rw [Int.max_eq_right q]
          exact .head _
        · left
          omega
      · exact .inr (.tail _ h1)
    · rw [List.foldl_cons]
      rcases List.mem_cons.mp hy with rfl | hy
      · omega
      · exact h3 y hy
theorem foldl_min : ∀ (ns : List Int) (n : Int), (ns.foldl min n = n ∨ ns.foldl min n ∈ ns) ∧ ns.foldl min n ≤ n ∧ ∀ y ∈ ns, ns.foldl min n ≤ y
  | [], n => ⟨.inl rfl, Int.le_refl _, fun _ h => nomatch h⟩
  | m :: ns, n => by
    obtain ⟨h1, h2, h3⟩ := foldl_min ns (min n m)
    refine ⟨?_, by rw [List.foldl_cons]; omega, fun y hy => ?_⟩
    · rw [List.foldl_cons]
      rcases h1 with h1 | h1
      · rw [h1]
        by_cases q : m ≤ n
        · right
          rw [Int.min_eq_right q]
          exact .head _
        · left
          omega
      · exact .inr (.tail _ h1)
    · rw [List.foldl_cons]
      rcases List.mem_cons.mp hy with rfl | hy
      · omega
      · exact h3 y hy
theorem lmax_ok {ns : List Int} (h : 0 < ns.length) : lmax ns ∈ ns ∧ ∀ y ∈ ns, y ≤ lmax ns := by
  cases ns with
  | nil => simp at h
  | cons n ns =>
    obtain ⟨h1, h2, h3⟩ := foldl_max ns n
    refine ⟨?_, fun y hy => ?_⟩
    · rcases h1 with h1 | h1
      · show ns.foldl max n ∈ _
        rw [h1]
        exact .head _
      · exact .tail _ h1
    · rcases List.mem_cons.mp hy with rfl | hy
      · exact h2
      · exact h3 y hy
theorem lmin_ok {ns : List Int} (h : 0 < ns.length) : lmin ns ∈ ns ∧ ∀ y ∈ ns, lmin ns ≤ y := by
  cases ns with
  | nil => simp at h
  | cons n ns =>
    obtain ⟨h1, h2, h3⟩ := foldl_min ns n
    refine ⟨?_, fun y hy => ?_⟩
    · rcases h1 with h1 | h1
      · show ns.foldl min n ∈ _
        rw [h1]
        exact .head _
      · exact .tail _ h1
    · rcases List.mem_cons.mp hy with rfl | hy
      · exact h2
      · exact h3 y hy
def fMaxL (d : PyData) : Option PyData := (intsOf d).bind fun ns => if 0 < ns.length then some (.int (lmax ns)) else none
def fMinL (d : PyData) : Option PyData := (intsOf d).bind fun ns => if 0 < ns.length then some (.int (lmin ns)) else none
theorem rc_maxL : RC1 (rMax K) fMaxL := fun F H e x dx dz hx hf Q q => by
  simp only [fMaxL, Option.bind_eq_some_iff] at hf
  obtain ⟨ns, h1, h3⟩ := hf
  split at h3
  · next hl =>
    cases h3
    obtain ⟨p, rfl, h2⟩ := ints_vw e hx h1
    refine ⟨p, ns, rfl, sq_of h2, hl, fun m hm hle => ?_⟩
    obtain ⟨k1, k2⟩ := lmax_ok hl
    have : m = lmax ns := Int.le_antisymm (k2 m hm) (hle _ k1)
    rw [this]
    exact q _ F H (Tn.refl e) (.int _)
  · cases h3
theorem rc_minL : RC1 (rMin K) fMinL := fun F H e x dx dz hx hf Q q => by
  simp only [fMinL, Option.bind_eq_some_iff] at hf
  obtain ⟨ns, h1, h3⟩ := hf
  split at h3
  · next hl =>
    cases h3
    obtain ⟨p, rfl, h2⟩ := ints_vw e hx h1
    refine ⟨p, ns, rfl, sq_of h2, hl, fun m hm hle => ?_⟩
    obtain ⟨k1, k2⟩ := lmin_ok hl
    have : m = lmin ns := Int.le_antisymm (hle _ k1) (k2 m hm)
    rw [this]
    exact q _ F H (Tn.refl e) (.int _)
  · cases h3
def fAll (d : PyData) : Option PyData := ((asLst d).bind asBls).map fun bs => .bool (bs.all id)
theorem bls_vw {x : V} {d : PyData} {bs : List Bool} (e : Ex F H) (h : VW F H x d) (hs : (asLst d).bind asBls = some bs) : ∃ p, x = .ref p ∧ H p = some (.lst (bs.map V.bl)) := by
  simp only [Option.bind_eq_some_iff] at hs
  obtain ⟨ds, h1, h2⟩ := hs
  cases d <;> simp [asLst] at h1
  subst h1
  obtain ⟨p, vs, rfl, h3, h4⟩ := h.lst e
  have := asBls_eq h2
  subst this
  rw [h4.bls] at h3
  exact ⟨p, rfl, h3⟩
theorem rc_all : RC1 (rAll K) fAll := fun F H e x dx dz hx hf Q q => by
  simp only [fAll, Option.map_eq_some_iff] at hf
  obtain ⟨bs, h1, rfl⟩ := hf
  obtain ⟨p, rfl, h2⟩ := bls_vw e hx h1
  exact ⟨p, bs, rfl, sq_of h2, q _ F H (Tn.refl e) (.bl _)⟩
/-- sorted of ints: the one list that rises -/
def isort (ns : List Int) : List Int := ns.mergeSort (fun a b => decide (a ≤ b))
theorem isort_perm (ns : List Int) : (isort ns).Perm ns := List.mergeSort_perm _ _
theorem isort_up (ns : List Int) : (isort ns).Pairwise (· ≤ ·) := by
  have h := List.pairwise_mergeSort (le := fun (a b : Int) => decide (a ≤ b)) (fun a b c h1 h2 => by simp at *; omega) (fun a b => by simp; omega) ns
  exact h.imp fun h => by simpa using h
theorem up_unique : ∀ {a b : List Int}, a.Perm b → a.Pairwise (· ≤ ·) → b.Pairwise (· ≤ ·) → a = b
  | a, b, p, h1, h2 => List.Perm.eq_of_pairwise (fun x y _ _ h3 h4 => Int.le_antisymm h3 h4) h1 h2 p
def fSortI (d : PyData) : Option PyData := (intsOf d).map fun ns => .list ((isort ns).map .int)
theorem rc_sortI : RC1 (rSortedI K) fSortI := fun F H e x dx dz hx hf Q q => by
  simp only [fSortI, Option.map_eq_some_iff] at hf
  obtain ⟨ns, h1, rfl⟩ := hf
  obtain ⟨p, rfl, h2⟩ := ints_vw e hx h1
  refine ⟨p, ns, rfl, sq_of h2, fun ns' p' hp hu hn => ?_⟩
  have := up_unique (hp.trans (isort_perm ns).symm) hu (isort_up ns)
  subst this
  exact frz_new e (RpAll.ofInts _) hn q
/-- each once -/
def once : List Int → List Int
  | [] => []
  | n :: ns => if n ∈ ns then once ns else n :: once ns
theorem once_mem : ∀ (ns : List Int) (k : Int), k ∈ once ns ↔ k ∈ ns
  | [], _ => Iff.rfl
  | n :: ns, k => by
    unfold once
    split
    · next h =>
      rw [once_mem ns k, List.mem_cons]
      exact ⟨.inr, fun q => q.elim (fun e => e ▸ h) id⟩
    · rw [List.mem_cons, List.mem_cons, once_mem ns k]
theorem once_nodup : ∀ ns : List Int, (once ns).Nodup
  | [] => List.nodup_nil
  | n :: ns => by
    unfold once
    split
    · exact once_nodup ns
    · next h => exact List.nodup_cons.mpr ⟨fun q => h ((once_mem ns n).mp q), once_nodup ns⟩
/-- sorted(set(ns)): rising, each once -/
def usort (ns : List Int) : List Int := isort (once ns)
theorem usort_mem (ns : List Int) (k : Int) : k ∈ usort ns ↔ k ∈ ns := by
  unfold usort
  rw [(isort_perm _).mem_iff, once_mem]
theorem lt_unique {a b : List Int} (h1 : a.Pairwise (· < ·)) (h2 : b.Pairwise (· < ·)) (h : ∀ k, k ∈ a ↔ k ∈ b) : a = b := by
  have n1 : a.Nodup := h1.imp fun h => by omega
  have n2 : b.Nodup := h2.imp fun h => by omega
  exact up_unique (List.perm_iff_count.mpr fun k => by
    rw [n1.count, n2.count]
    by_cases q : k ∈ a
    · rw [if_pos q, if_pos ((h k).mp q)]
    · rw [if_neg q, if_neg fun z => q ((h k).mpr z)]) (h1.imp fun h => by omega) (h2.imp fun h => by omega)
/-- list(..), tuple(..) of a sequence -/
def fListOf (d : PyData) : Option PyData := (seqOf d).map .list
theorem rc_listOf : RC1 (rListS K) fListOf := fun F H e x dx dz hx hf Q q => by
  simp only [fListOf, Option.map_eq_some_iff] at hf
  obtain ⟨ds, h1, rfl⟩ := hf
  obtain ⟨p, xs, rfl, h4, h5⟩ := seq_vw (K := K) e hx h1
  exact ⟨p, xs, rfl, h4, fun l hl => frz_new e h5 hl q⟩
theorem rcn_listOf : RCn (rListS K) seqOf := fun F H e x dx ds hx hf Q q => by
  obtain ⟨p, xs, rfl, h4, h5⟩ := seq_vw (K := K) e hx hf
  exact ⟨p, xs, rfl, h4, fun l hl => q l xs hl h5⟩
/-! slices -/
def sIxD (n d : Nat) : Option Int → Nat := HT.sIx n d
def cutD (xs : List PyData) (lo hi : Option Int) : List PyData := (xs.drop (HT.sIx xs.length 0 lo)).take (HT.sIx xs.length xs.length hi - HT.sIx xs.length 0 lo)
theorem cut_rp {xs : List V} {ds : List PyData} (h : RpAll F xs ds) (lo hi : Option Int) : RpAll F (cutV xs lo hi) (cutD ds lo hi) := by
  unfold cutV cutD
  rw [h.length]
  exact (h.drop _).take _
def fSl (d : PyData) (lo hi : Option Int) : Option PyData := (asLst d).map fun ds => .list (cutD ds lo hi)
theorem rds_l : RDS (rSlL K) fSl := fun F H e x dx lo hi dz hx hf Q q => by
  simp only [fSl, Option.map_eq_some_iff] at hf
  obtain ⟨ds, h1, rfl⟩ := hf
  cases dx <;> simp [asLst] at h1
  subst h1
  obtain ⟨p, vs, rfl, h3, h4⟩ := hx.lst e
  exact ⟨p, vs, rfl, sq_of h3, fun l hl => frz_new e (cut_rp h4 lo hi) hl q⟩
def fSlT (d : PyData) (lo hi : Option Int) : Option PyData := (asTup d).map fun ds => .tuple (cutD ds lo hi)
theorem rds_t : RDS (rSlA K) fSlT := fun F H e x dx lo hi dz hx hf Q q => by
  simp only [fSlT, Option.map_eq_some_iff] at hf
  obtain ⟨ds, h1, rfl⟩ := hf
  have hd : dx = .tuple ds := by
    cases dx <;> simp [asTup] at h1
    rw [h1]
  subst hd
  have hx' := vw_tup hx
  obtain ⟨p, vs, rfl, h3, h4⟩ := rp_tup hx'
  refine ⟨p, vs, rfl, st_of (e _ _ h3), fun hc => ?_, fun _ l hl => frz_newT e (cut_rp h4 lo hi) hl q⟩
  refine q _ F H (Tn.refl e) ?_
  rw [h4.length] at hc
  have : cutD ds lo hi = ds := by
    unfold cutD
    rw [hc.1, hc.2, List.drop_zero, Nat.sub_zero, List.take_length]
  rw [this]
  exact hx'
/-! isinstance -/
def kindOf : PyData → Option String
  | .none => some "NoneType"
  | .bool _ => some "bool"
  | .int _ => some "int"
  | .str _ => some "str"
  | .list _ => some "list"
  | .tuple _ => some "tuple"
  | .dict _ => none
def dIsi (c : String) (a : DI) : DI := fun ρ => (a ρ).bind fun r => (kindOf r.1).bind fun k => (kitB k c).map fun b => (.bool b, r.2)
theorem sd_isi {te : TE} {a : DI} {c : String} (ha : SdV cl K te a) : SdI cl K (tCB (rIsi K) (tCons te (tCons (tC (.ty c)) tNil))) (dIsi c a) := fun F H σ ρ S s x ρ' h Q q => by
  simp only [dIsi, Option.bind_eq_some_iff, Option.map_eq_some_iff] at h
  obtain ⟨⟨x1, ρ1⟩, h1, k, hk, b, hb, e⟩ := h
  cases e
  refine ha F H σ ρ S s _ _ h1 _ fun v F1 H1 S1 t1 s1 r1 => ?_
  refine ⟨v, .ty c, .type k, .type c, b, rfl, .ty c, ?_, kit_ty hb, q _ F1 H1 S1 t1 s1 (.bl b)⟩
  cases x1 <;> simp [kindOf] at hk <;> subst hk
  · rw [r1.non]; exact .base .non
  · rw [r1.bl]; exact .base (.bl _)
  · rw [r1.int]; exact .base (.int _)
  · rw [r1.str]; exact .base (.str _)
  · obtain ⟨p, vs, rfl, h3, _⟩ := r1.lst s1.ex
    exact .base (.lst h3)
  · obtain ⟨p, vs, rfl, h3, _⟩ := r1.tup s1.ex
    exact .base (.tup h3)
end
end DL

set_option Elab.async false
set_option linter.all false
set_option maxRecDepth 100000
set_option maxHeartbeats 1000000
/-! DLf: owned lists and dicts, changed -/
namespace DL
open PySem L2 Evl

section
variable {cl : Nat → Addr} {K : PySem.W.Frag} {W : WX} {pn : List Nat}
/-- an owned object of a slot is changed -/
theorem SR.put {F H : Hp} {σ : L2.St} {ρ : DEnv} {S : List Addr} {i : Nat} {o : Ob} {a : Addr} {u' : HO} {o' : Ob} (s : SR cl K F H σ ρ S) (h : ρ[i]? = some (.ow o)) (ha : σ[i]? = some (some (.ref a))) (h1 : RO cl F H a o [a])
    (hn : RO cl F (upd H a u') a o' [a]) : ∃ S', SR cl K F (upd H a u') σ (ρ.set i (.ow o')) S' ∧ Tr F H S F (upd H a u') S' := by
  obtain ⟨b, fp, S0, e1, e2, e3, e4⟩ := s.rs.get_ow h
  rw [ha] at e1
  cases e1
  have hF := (h1.own a (.head _)).1
  have hm : a ∈ fp := e2.mem
  have nd := nodup_perm_app e3 s.nd
  have hn0 : a ∉ S0 := fun z => (List.nodup_append.mp nd).2.2 a hm a z rfl
  have r1 : RSs cl K F (upd H a u') σ (ρ.set i .un) S0 := e4.frame (Ex.refl _) (fun p hp z hz => by
    rw [upd_ne (fun (w : p = a) => hn0 (w ▸ hp))]
    exact hz) fun p hp => (e4.own p hp).1
  have hi : i < (ρ.set i .un).length := by
    rw [List.length_set, ← s.rs.length]
    exact (List.getElem?_eq_some_iff.mp ha).1
  obtain ⟨S1, S2, b1, b2, b3⟩ := r1.put_ow i hi hn
  rw [set_self ha, List.set_set] at b1
  have hS2 : ∀ p, p ∈ S2 → p ∈ S := fun p hp => by
    rcases List.mem_append.mp (b2.mem_iff.mp hp) with hp | hp
    · cases List.mem_singleton.mp hp
      exact e3.mem_iff.mpr (List.mem_append_left _ hm)
    · exact mem_of_perm e3 (b3.subset hp)
  have nd2 : S2.Nodup := b2.nodup_iff.mpr (List.nodup_cons.mpr ⟨fun z => hn0 (b3.subset z), ((List.nodup_append.mp nd).2.1).sublist b3⟩)
  have haS : a ∈ S := e3.mem_iff.mpr (List.mem_append_left _ hm)
  refine ⟨S2, ⟨fun p z hz => by
    rw [upd_ne (ne_of_none hz hF)]
    exact s.ex p z hz, b1, nd2⟩, ⟨Ex.refl _, fun p z hz hnS => ?_, fun p z hz => ?_, fun _ _ _ _ f _ => f, fun p hp => .inl (hS2 p hp)⟩⟩
  · rw [upd_ne (fun (w : p = a) => hnS (w ▸ haS))]
    exact hz
  · by_cases w : p = a
    · subst w
      exact ⟨_, upd_same⟩
    · exact ⟨z, by rw [upd_ne w]; exact hz⟩
theorem SR.lst {F H : Hp} {σ : L2.St} {ρ : DEnv} {S : List Addr} {i : Nat} {ds : List PyData} (s : SR cl K F H σ ρ S) (h : ρ[i]? = some (.ow (.lst ds))) : ∃ a vs, σ[i]? = some (some (.ref a)) ∧ H a = some (.lst vs) ∧ RpAll F vs ds ∧
    ∀ vs' ds', RpAll F vs' ds' → ∃ S', SR cl K F (upd H a (.lst vs')) σ (ρ.set i (.ow (.lst ds'))) S' ∧ Tr F H S F (upd H a (.lst vs')) S' := by
  obtain ⟨a, fp, S0, e1, e2, e3, e4⟩ := s.rs.get_ow h
  cases e2 with
  | lst q1 q2 q3 => exact ⟨a, _, e1, q2, q3, fun vs' ds' r => s.put h e1 (.lst q1 q2 q3) (.lst q1 upd_same r)⟩
theorem SR.dic {F H : Hp} {σ : L2.St} {ρ : DEnv} {S : List Addr} {i : Nat} {ds : List (Key × PyData)} (s : SR cl K F H σ ρ S) (h : ρ[i]? = some (.ow (.dic ds))) : ∃ a vs, σ[i]? = some (some (.ref a)) ∧ H a = some (.dK vs) ∧ KvAll F vs ds ∧
    ∀ vs' ds', KvAll F vs' ds' → ∃ S', SR cl K F (upd H a (.dK vs')) σ (ρ.set i (.ow (.dic ds'))) S' ∧ Tr F H S F (upd H a (.dK vs')) S' := by
  obtain ⟨a, fp, S0, e1, e2, e3, e4⟩ := s.rs.get_ow h
  cases e2 with
  | dic q1 q2 q3 => exact ⟨a, _, e1, q2, q3, fun vs' ds' r => s.put h e1 (.dic q1 q2 q3) (.dic q1 upd_same r)⟩
theorem SR.dct {F H : Hp} {σ : L2.St} {ρ : DEnv} {S : List Addr} {i : Nat} {ds : List (List Key × PyData)} (s : SR cl K F H σ ρ S) (h : ρ[i]? = some (.ow (.dct ds))) : ∃ a vs, σ[i]? = some (some (.ref a)) ∧ H a = some (.dT vs) ∧ KvAll F vs ds ∧
    ∀ vs' ds', KvAll F vs' ds' → ∃ S', SR cl K F (upd H a (.dT vs')) σ (ρ.set i (.ow (.dct ds'))) S' ∧ Tr F H S F (upd H a (.dT vs')) S' := by
  obtain ⟨a, fp, S0, e1, e2, e3, e4⟩ := s.rs.get_ow h
  cases e2 with
  | dct q1 q2 q3 => exact ⟨a, _, e1, q2, q3, fun vs' ds' r => s.put h e1 (.dct q1 q2 q3) (.dct q1 upd_same r)⟩
end

def ownL : Option Sl → Option (List PyData)
  | some (.ow (.lst ds)) => some ds
  | _ => none
def ownD : Option Sl → Option (List (Key × PyData))
  | some (.ow (.dic ds)) => some ds
  | _ => none
def ownT : Option Sl → Option (List (List Key × PyData))
  | some (.ow (.dct ds)) => some ds
  | _ => none
theorem ownL_eq {s : Option Sl} {ds : List PyData} (h : ownL s = some ds) : s = some (.ow (.lst ds)) := by
  unfold ownL at h
  split at h
  · cases h; rfl
  · cases h
theorem ownD_eq {s : Option Sl} {ds : List (Key × PyData)} (h : ownD s = some ds) : s = some (.ow (.dic ds)) := by
  unfold ownD at h
  split at h
  · cases h; rfl
  · cases h
theorem ownT_eq {s : Option Sl} {ds : List (List Key × PyData)} (h : ownT s = some ds) : s = some (.ow (.dct ds)) := by
  unfold ownT at h
  split at h
  · cases h; rfl
  · cases h
/-- x.append(e) -/
def dApp (i : Nat) (e : DI) : DS := fun ρ => (ownL ρ[i]?).bind fun _ => (e ρ).bind fun r => (ownL r.2[i]?).bind fun ds => if ds.length < sizeLine then some (.nx, r.2.set i (.ow (.lst (ds ++ [r.1])))) else none
/-- x[b] = e -/
def dSet (i : Nat) (e b : DI) : DS := fun ρ => (e ρ).bind fun r => (ownL r.2[i]?).bind fun _ => (b r.2).bind fun s => (toI s.1).bind fun k => (ownL s.2[i]?).bind fun ds => (ixN ds.length k).map fun j => (.nx, s.2.set i (.ow (.lst (ds.set j r.1))))
/-- x[b] op= e, ints -/
def dAugL (i : Nat) (f : Int → Int → Int) (b e : DI) : DS := fun ρ => (ownL ρ[i]?).bind fun _ => (b ρ).bind fun s => (toI s.1).bind fun k => (ownL s.2[i]?).bind fun ds => (atI ds k).bind fun x => (toI x).bind fun x => (e s.2).bind fun r => (toI r.1).bind fun y =>
  (ownL r.2[i]?).bind fun ds2 => (ixN ds2.length k).map fun j => (.nx, r.2.set i (.ow (.lst (ds2.set j (.int (f x y))))))
/-- x.pop() -/
def dPop (i : Nat) : DI := fun ρ => (ownL ρ[i]?).bind fun ds => (ds[ds.length - 1]?).map fun x => (x, ρ.set i (.ow (.lst ds.dropLast)))
/-- x.insert(b, e) -/
def dIns (i : Nat) (b e : DI) : DS := fun ρ => (ownL ρ[i]?).bind fun _ => (b ρ).bind fun s => (toI s.1).bind fun k => (e s.2).bind fun r => (ownL r.2[i]?).bind fun ds => if ds.length < sizeLine ∧ 0 ≤ k ∧ k < 2 ^ 63 then some (.nx, r.2.set i (.ow (.lst (ds.take k.toNat ++ [r.1] ++ ds.drop k.toNat)))) else none
/-- x.extend(e) -/
def dExt (i : Nat) (e : DI) : DS := fun ρ => (ownL ρ[i]?).bind fun _ => (e ρ).bind fun r => (asLst r.1).bind fun es => (ownL r.2[i]?).bind fun ds => if ds.length + es.length ≤ sizeLine then some (.nx, r.2.set i (.ow (.lst (ds ++ es)))) else none
def rInsert : V → List V → Hp → VK → Prop := fun x vs H Q => ∃ (l : Addr) (xs : List V) (i : Int) (y : V), x = .ref l ∧ vs = [.int i, y] ∧ H l = some (.lst xs) ∧ xs.length < sizeLine ∧ 0 ≤ i ∧ i < 2 ^ 63 ∧ Q .non (upd H l (.lst (xs.take i.toNat ++ [y] ++ xs.drop i.toNat)))
/-- what an item of a list is read as, for x[i] op= e -/
def gIxL (K : PySem.W.Frag) : V → V → Hp → VK → Prop := fun o i H Q => ∃ (p : Addr) (xs : List V) (j : Nat) (v : V), o = .ref p ∧ i = .int (j : Int) ∧ SqL K H p xs ∧ xs[j]? = some v ∧ Q v H
theorem get_list {X : Cx} : PGet X (gIxL X.K) := by
  intro pins s σ H o i ov iv Q I ro ri h
  obtain ⟨p, xs, j, v, rfl, rfl, h1, h2, q⟩ := h
  cases ro
  obtain ⟨t, rfl⟩ := ri
  obtain ⟨its, r, pl, hz⟩ := I.list h1
  obtain ⟨w, ew, rw'⟩ := r.get h2
  have hj : j < its.length := (List.getElem?_eq_some_iff.mp ew).1
  have hl := r.length
  have hn := line63
  exact wpAny_getItem_list pl.isList (by omega) (by omega) (by rw [Int.toNat_natCast]; simpa using ew) ⟨v, H, I, rw', q⟩

section
variable {cl : Nat → Addr} {K : PySem.W.Frag} {W : WX} {pn : List Nat}
theorem ss_app {i : Nat} {te : TE} {e : DI} (he : SdI cl K te e) : SdS cl K W pn (tDrop (tBM K "list" rAppend (tVar i) (tCons te tNil))) (dApp i e) := fun F H σ ρ S s fl ρ' h D p => by
  simp only [dApp, Option.bind_eq_some_iff] at h
  obtain ⟨ds0, h0, ⟨x, ρ1⟩, h1, ds, h2, h3⟩ := h
  split at h3
  · next hl =>
    cases h3
    obtain ⟨a, vs, e1, e2, e3, _⟩ := s.lst (ownL_eq h0)
    refine ⟨_, e1, .inl ⟨rfl, vs, sq_of e2⟩, ?_⟩
    refine he F H σ ρ S s _ _ h1 _ fun v F1 H1 S1 t1 s1 r1 => ?_
    obtain ⟨a', vs', e1', e2', e3', k⟩ := s1.lst (ownL_eq h2)
    rw [e1] at e1'
    cases e1'
    obtain ⟨S2, s2, t2⟩ := k (vs' ++ [v]) (ds ++ [x]) (e3'.append (.one r1))
    exact ⟨a, vs', v, rfl, rfl, e2', by rw [e3'.length]; exact hl, p F1 _ σ S2 (t1.trans t2) s2 (Pin.refl _ _)⟩
  · cases h3
theorem ss_set {i : Nat} {te tb : TE} {e b : DI} (he : SdI cl K te e) (hb : SdI cl K tb b) : SdS cl K W pn (tAsg te (gSub (tVar i) tb rSetL)) (dSet i e b) := fun F H σ ρ S s fl ρ' h D p => by
  simp only [dSet, Option.bind_eq_some_iff, Option.map_eq_some_iff] at h
  obtain ⟨⟨x, ρ1⟩, h1, ds0, h0, ⟨y, ρ2⟩, h2, k, hk, ds, h3, j, hj, e0⟩ := h
  cases e0
  refine he F H σ ρ S s _ _ h1 _ fun v F1 H1 S1 t1 s1 r1 => ?_
  obtain ⟨a, vs, e1, e2, e3, _⟩ := s1.lst (ownL_eq h0)
  refine ⟨_, e1, ?_⟩
  refine hb F1 H1 σ ρ1 S1 s1 _ _ h2 _ fun u F2 H2 S2 t2 s2 r2 => ?_
  obtain ⟨a', vs', e1', e2', e3', kk⟩ := s2.lst (ownL_eq h3)
  rw [e1] at e1'
  cases e1'
  cases y <;> simp [toI] at hk
  subst hk
  cases r2
  obtain ⟨S3, s3, t3⟩ := kk (vs'.set j v) (ds.set j x) (e3'.set j (r1.mono t2.ex))
  exact ⟨a, vs', _, j, rfl, rfl, e2', by rw [e3'.length]; exact hj, p F2 _ σ S3 ((t1.trans t2).trans t3) s3 (Pin.refl _ _)⟩
theorem atI_nn {α : Type} {xs : List α} {k : Int} {x : α} (h0 : 0 ≤ k) (h : atI xs k = some x) : xs[k.toNat]? = some x := by
  unfold atI ixN at h
  rw [if_pos h0] at h
  split at h
  · simpa using h
  · cases h
theorem ss_augL {i : Nat} {f : Int → Int → Int} {tb te : TE} {b e : DI} (hb : SdI cl K tb b) (he : SdI cl K te e) (hf : ∀ ρ r, b ρ = some r → ∀ k, toI r.1 = some k → 0 ≤ k := by intro ρ r h k hk; first | (cases h; cases hk; decide) | skip) :
    SdS cl K W pn (tAugS (tVar i) tb te (gIxL K) (ipI f) rSetL) (dAugL i f b e) := fun F H σ ρ S s fl ρ' h D p => by
  simp only [dAugL, Option.bind_eq_some_iff, Option.map_eq_some_iff] at h
  obtain ⟨ds0, h0, ⟨y, ρ1⟩, h1, k, hk, ds, h2, x, h3, xi, hx, ⟨z, ρ2⟩, h4, zi, hz, ds2, h5, j, hj, e0⟩ := h
  cases e0
  obtain ⟨a, vs, e1, e2, e3, _⟩ := s.lst (ownL_eq h0)
  refine ⟨_, e1, ?_⟩
  have hk0 := hf _ _ h1 k hk
  refine hb F H σ ρ S s _ _ h1 _ fun u F1 H1 S1 t1 s1 r1 => ?_
  obtain ⟨a1, vs1, e11, e21, e31, _⟩ := s1.lst (ownL_eq h2)
  rw [e1] at e11
  cases e11
  cases y <;> simp [toI] at hk
  subst hk
  cases r1
  have h3' := atI_nn hk0 h3
  obtain ⟨v, g1, g2⟩ := e31.get h3'
  refine ⟨a, vs1, _, v, rfl, by rw [Int.toNat_of_nonneg hk0], sq_of e21, g1, ?_⟩
  refine he F1 H1 σ ρ1 S1 s1 _ _ h4 _ fun w F2 H2 S2 t2 s2 r2 => ?_
  obtain ⟨a2, vs2, e12, e22, e32, kk⟩ := s2.lst (ownL_eq h5)
  rw [e1] at e12
  cases e12
  cases x <;> simp [toI] at hx
  subst hx
  cases g2
  cases z <;> simp [toI] at hz
  subst hz
  cases r2
  obtain ⟨S3, s3, t3⟩ := kk (vs2.set j _) (ds2.set j _) (e32.set j (.int (f _ _)))
  exact ⟨_, _, rfl, rfl, a, vs2, _, j, rfl, rfl, e22, by rw [e32.length]; exact hj, p F2 _ σ S3 ((t1.trans t2).trans t3) s3 (Pin.refl _ _)⟩
theorem sd_pop (i : Nat) : SdI cl K (tBM0 K "list" rPop (tVar i)) (dPop i) := fun F H σ ρ S s x ρ' h Q q => by
  simp only [dPop, Option.bind_eq_some_iff, Option.map_eq_some_iff] at h
  obtain ⟨ds, h0, y, h1, e0⟩ := h
  cases e0
  obtain ⟨a, vs, e1, e2, e3, k⟩ := s.lst (ownL_eq h0)
  obtain ⟨S2, s2, t2⟩ := k vs.dropLast ds.dropLast e3.dropLast
  obtain ⟨v, g1, g2⟩ := e3.get h1
  exact ⟨_, e1, .inl ⟨rfl, vs, sq_of e2⟩, a, vs, v, rfl, rfl, e2, by rw [e3.length]; exact g1, q v F _ S2 t2 s2 g2⟩
theorem ss_ins {i : Nat} {tb te : TE} {b e : DI} (hb : SdI cl K tb b) (he : SdI cl K te e) : SdS cl K W pn (tDrop (tBM K "list" rInsert (tVar i) (tCons tb (tCons te tNil)))) (dIns i b e) := fun F H σ ρ S s fl ρ' h D p => by
  simp only [dIns, Option.bind_eq_some_iff] at h
  obtain ⟨ds0, h0, ⟨y, ρ1⟩, h1, k, hk, ⟨x, ρ2⟩, h2, ds, h3, h4⟩ := h
  split at h4
  · next hl =>
    cases h4
    obtain ⟨a, vs, e1, e2, e3, _⟩ := s.lst (ownL_eq h0)
    refine ⟨_, e1, .inl ⟨rfl, vs, sq_of e2⟩, ?_⟩
    refine hb F H σ ρ S s _ _ h1 _ fun v F1 H1 S1 t1 s1 r1 => ?_
    refine he F1 H1 σ ρ1 S1 s1 _ _ h2 _ fun u F2 H2 S2 t2 s2 r2 => ?_
    obtain ⟨a', vs', e1', e2', e3', kk⟩ := s2.lst (ownL_eq h3)
    rw [e1] at e1'
    cases e1'
    cases y <;> simp [toI] at hk
    subst hk
    cases r1
    obtain ⟨S3, s3, t3⟩ := kk (vs'.take _ ++ [u] ++ vs'.drop _) (ds.take _ ++ [x] ++ ds.drop _) (((e3'.take _).append (.one r2)).append (e3'.drop _))
    exact ⟨a, vs', _, u, rfl, rfl, e2', by rw [e3'.length]; exact hl.1, hl.2.1, hl.2.2, p F2 _ σ S3 ((t1.trans t2).trans t3) s3 (Pin.refl _ _)⟩
  · cases h4
theorem ss_ext {i : Nat} {te : TE} {e : DI} (he : SdI cl K te e) : SdS cl K W pn (tDrop (tBM K "list" rExtend (tVar i) (tCons te tNil))) (dExt i e) := fun F H σ ρ S s fl ρ' h D p => by
  simp only [dExt, Option.bind_eq_some_iff] at h
  obtain ⟨ds0, h0, ⟨x, ρ1⟩, h1, es, hx, ds, h2, h3⟩ := h
  split at h3
  · next hl =>
    cases h3
    obtain ⟨a, vs, e1, e2, e3, _⟩ := s.lst (ownL_eq h0)
    refine ⟨_, e1, .inl ⟨rfl, vs, sq_of e2⟩, ?_⟩
    refine he F H σ ρ S s _ _ h1 _ fun v F1 H1 S1 t1 s1 r1 => ?_
    obtain ⟨a', vs', e1', e2', e3', k⟩ := s1.lst (ownL_eq h2)
    rw [e1] at e1'
    cases e1'
    cases x <;> simp [asLst] at hx
    subst hx
    obtain ⟨b, ws, rfl, q1, q2⟩ := rp_lst r1
    obtain ⟨S2, s2, t2⟩ := k (vs' ++ ws) (ds ++ _) (e3'.append q2)
    exact ⟨a, b, vs', ws, rfl, rfl, e2', s1.ex _ _ q1, by rw [e3'.length, q2.length]; exact hl, p F1 _ σ S2 (t1.trans t2) s2 (Pin.refl _ _)⟩
  · cases h3
end

/-! ### dicts -/
section
variable {κ : Type} [DecidableEq κ]
def valD (kvs : List (κ × PyData)) (k : κ) : Option PyData := (kvs.find? fun kv => decide (kv.1 = k)).map (·.2)
def putD (kvs : List (κ × PyData)) (k : κ) (v : PyData) : List (κ × PyData) := if (kvs.any fun kv => decide (kv.1 = k)) = true then kvs.map (fun kv => if kv.1 = k then (kv.1, v) else kv) else kvs ++ [(k, v)]
def dropD (kvs : List (κ × PyData)) (k : κ) : List (κ × PyData) := kvs.filter fun kv => decide (kv.1 ≠ k)
variable {F : Hp}
theorem KvAll.val {k : κ} : ∀ {a : List (κ × V)} {b : List (κ × PyData)}, KvAll F a b → (∀ d, valD b k = some d → ∃ v, valV a k = some v ∧ Rp F v d) ∧ (valD b k = none → valV a k = none)
  | _, _, .nil => ⟨fun d h => by simp [valD] at h, fun _ => rfl⟩
  | (k1, v1) :: a, (k2, d2) :: b, .cons r t => by
    obtain ⟨h1, h2⟩ := KvAll.val (k := k) (show KvAll F a b from t)
    obtain ⟨e, r⟩ := r
    dsimp only at e r
    subst e
    by_cases q : k1 = k
    · subst q
      simp [valD, valV]
      exact r
    · simp only [valD, valV, List.find?_cons, decide_eq_false q]
      exact ⟨h1, h2⟩
theorem KvAll.len : ∀ {a : List (κ × V)} {b : List (κ × PyData)}, KvAll F a b → a.length = b.length := fun h => Paired.length h
theorem KvAll.any {p : κ → Bool} : ∀ {a : List (κ × V)} {b : List (κ × PyData)}, KvAll F a b → (a.any fun kv => p kv.1) = b.any fun kv => p kv.1
  | _, _, .nil => rfl
  | (k1, v1) :: a, (k2, d2) :: b, .cons r t => by
    rw [List.any_cons, List.any_cons, KvAll.any (show KvAll F a b from t)]
    rw [show k1 = k2 from r.1]
theorem KvAll.app : ∀ {a a' : List (κ × V)} {b b' : List (κ × PyData)}, KvAll F a b → KvAll F a' b' → KvAll F (a ++ a') (b ++ b')
  | _, _, _, _, .nil, h => h
  | _, _, _, _, .cons r t, h => .cons r (KvAll.app (show KvAll F _ _ from t) h)
theorem KvAll.mapPut {k : κ} {v : V} {d : PyData} (hv : Rp F v d) : ∀ {a : List (κ × V)} {b : List (κ × PyData)}, KvAll F a b → KvAll F (a.map fun kv => if kv.1 = k then (kv.1, v) else kv) (b.map fun kv => if kv.1 = k then (kv.1, d) else kv)
  | _, _, .nil => .nil
  | (k1, v1) :: a, (k2, d2) :: b, .cons r t => by
    obtain ⟨e, r⟩ := r
    dsimp only at e r
    subst e
    refine .cons ?_ (KvAll.mapPut hv (show KvAll F a b from t))
    dsimp only
    by_cases q : k1 = k
    · rw [if_pos q, if_pos q]
      exact ⟨rfl, hv⟩
    · rw [if_neg q, if_neg q]
      exact ⟨rfl, r⟩
theorem KvAll.put {k : κ} {v : V} {d : PyData} {a : List (κ × V)} {b : List (κ × PyData)} (h : KvAll F a b) (hv : Rp F v d) : KvAll F (putK a k v) (putD b k d) := by
  unfold putK putD
  rw [h.any (p := fun x => decide (x = k))]
  split
  · exact h.mapPut hv
  · exact h.app (.cons ⟨rfl, hv⟩ .nil)
theorem KvAll.drop {k : κ} : ∀ {a : List (κ × V)} {b : List (κ × PyData)}, KvAll F a b → KvAll F (dropK a k) (dropD b k)
  | _, _, .nil => .nil
  | (k1, v1) :: a, (k2, d2) :: b, .cons r t => by
    have ih := KvAll.drop (k := k) (show KvAll F a b from t)
    obtain ⟨e, r⟩ := r
    dsimp only at e r
    subst e
    unfold dropK dropD at *
    by_cases q : k1 = k
    · simp only [List.filter_cons, q]
      simpa using ih
    · simp only [List.filter_cons, ne_eq, q, not_false_eq_true, decide_true, if_true]
      exact .cons ⟨rfl, r⟩ ih
end
/-- a key that is a number or a text -/
def keyD : PyData → Option Key
  | .int i => some (.inl i)
  | .str x => some (.inr x)
  | _ => none
theorem keyD_ok {F : Hp} {v : V} {d : PyData} {k : Key} (h : keyD d = some k) (r : Rp F v d) : v = kV k := by
  cases d <;> simp [keyD] at h <;> subst h <;> cases r <;> rfl
def keyDs : List PyData → Option (List Key)
  | [] => some []
  | d :: ds => (keyD d).bind fun k => (keyDs ds).map (k :: ·)
theorem keyDs_ok {F : Hp} : ∀ {vs : List V} {ds : List PyData} {ks : List Key}, keyDs ds = some ks → RpAll F vs ds → vs = ks.map kV
  | _, [], _, h, .nil => by cases h; rfl
  | _, d :: ds, _, h, .cons a b => by
    simp only [keyDs, Option.bind_eq_some_iff, Option.map_eq_some_iff] at h
    obtain ⟨k, h1, ks, h2, rfl⟩ := h
    rw [keyD_ok h1 a, keyDs_ok h2 b]
    rfl
def keyT (d : PyData) : Option (List Key) := (asTup d).bind keyDs
theorem keyT_ok {F : Hp} {v : V} {d : PyData} {k : List Key} (h : keyT d = some k) (r : Rp F v d) : ∃ b, v = .ref b ∧ F b = some (.tup (k.map kV)) := by
  simp only [keyT, Option.bind_eq_some_iff] at h
  obtain ⟨ds, h1, h2⟩ := h
  cases d <;> simp [asTup] at h1
  subst h1
  obtain ⟨a, xs, rfl, q1, q2⟩ := rp_tup r
  rw [keyDs_ok h2 q2] at q1
  exact ⟨a, rfl, q1⟩
def dNewK : DE := fun ρ => some (.nw (.dic []), ρ)
def dNewT : DE := fun ρ => some (.nw (.dct []), ρ)
/-- {k: v} -/
def dDisp1 (k v : DI) : DE := fun ρ => (k ρ).bind fun r => (keyD r.1).bind fun key => (v r.2).map fun s => (.nw (.dic [(key, s.1)]), s.2)
/-- e in x, not in; x[e]; x[e] = v -/
def dDIn (neg : Bool) (i : Nat) (e : DI) : DI := fun ρ => (e ρ).bind fun r => (keyD r.1).bind fun k => (ownD r.2[i]?).map fun kvs => (.bool (if neg then !(valD kvs k).isSome else (valD kvs k).isSome), r.2)
def dTIn (neg : Bool) (i : Nat) (e : DI) : DI := fun ρ => (e ρ).bind fun r => (keyT r.1).bind fun k => (ownT r.2[i]?).map fun kvs => (.bool (if neg then !(valD kvs k).isSome else (valD kvs k).isSome), r.2)
def dDGet (i : Nat) (e : DI) : DI := fun ρ => (ownD ρ[i]?).bind fun _ => (e ρ).bind fun r => (keyD r.1).bind fun k => (ownD r.2[i]?).bind fun kvs => (valD kvs k).map (·, r.2)
def dDPut (i : Nat) (e v : DI) : DS := fun ρ => (v ρ).bind fun r => (ownD r.2[i]?).bind fun _ => (e r.2).bind fun s => (keyD s.1).bind fun k => (ownD s.2[i]?).bind fun kvs => if kvs.length < sizeLine then some (.nx, s.2.set i (.ow (.dic (putD kvs k r.1)))) else none
def dTPut (i : Nat) (e v : DI) : DS := fun ρ => (v ρ).bind fun r => (ownT r.2[i]?).bind fun _ => (e r.2).bind fun s => (keyT s.1).bind fun k => (ownT s.2[i]?).bind fun kvs => if kvs.length < sizeLine then some (.nx, s.2.set i (.ow (.dct (putD kvs k r.1)))) else none
section
variable {cl : Nat → Addr} {K : PySem.W.Frag} {W : WX} {pn : List Nat}
theorem nw_ok {H F' H' : Hp} {σ : L2.St} {ρ : DEnv} {S S' : List Addr} {p : Addr} {o : Ob} (s : SR cl K F' H' σ ρ S') (hp : H p = none) (hS : p ∉ S') (ho : RO cl F' H' p o [p]) : RV cl F' H' σ S' H S (.ref p) (.nw o) :=
  ⟨p, [p], rfl, ho, List.nodup_cons.mpr ⟨hS, s.nd⟩, fun q hq => by cases List.mem_singleton.mp hq; exact .inr hp⟩
theorem SR.fresh {F H : Hp} {σ : L2.St} {ρ : DEnv} {S : List Addr} {p : Addr} (s : SR cl K F H σ ρ S) (hp : H p = none) : p ∉ S := fun hm => by
  obtain ⟨_, u, hu, _⟩ := s.rs.own p hm
  rw [hp] at hu
  cases hu
theorem se_newK : SdE cl K tDNewK dNewK := fun F H σ ρ S s x ρ' h Q q => by
  cases h
  intro p hp
  exact q _ F _ S (Tr.newO hp) (s.newO hp) (nw_ok (s.newO hp) hp (s.fresh hp) (.dic (fresh_back s.ex hp) upd_same .nil))
theorem se_newT : SdE cl K tDNewT dNewT := fun F H σ ρ S s x ρ' h Q q => by
  cases h
  intro p hp
  exact q _ F _ S (Tr.newO hp) (s.newO hp) (nw_ok (s.newO hp) hp (s.fresh hp) (.dct (fresh_back s.ex hp) upd_same .nil))
/-- an owned thing that no slot has, changed -/
theorem SR.loose {F H : Hp} {σ : L2.St} {ρ : DEnv} {S : List Addr} {p : Addr} {u' : HO} (s : SR cl K F H σ ρ S) (hF : F p = none) (hS : p ∉ S) : SR cl K F (upd H p u') σ ρ S :=
  ⟨fun q z hz => by rw [upd_ne (ne_of_none hz hF)]; exact s.ex q z hz, s.rs.frame (Ex.refl _) (fun q hq z hz => by
    rw [upd_ne (fun (w : q = p) => hS (w ▸ hq))]
    exact hz) fun q hq => (s.rs.own q hq).1, s.nd⟩
theorem Tr.loose {F H F' H' : Hp} {S S' : List Addr} {p : Addr} {u' : HO} (t : Tr F H S F' H' S') (hp : H p = none) : Tr F H S F' (upd H' p u') S' :=
  ⟨t.ex, fun q z hz hn => by rw [upd_ne (ne_of_none hz hp)]; exact t.keep q z hz hn, fun q z hz => by rw [upd_ne (ne_of_none hz hp)]; exact t.there q z hz, t.own, t.sub⟩
theorem se_disp1 {tk tv : TE} {k v : DI} (hk : SdI cl K tk k) (hv : SdI cl K tv v) : SdE cl K (tDisp [(tk, tv)]) (dDisp1 k v) := fun F H σ ρ S s x ρ' h Q q => by
  simp only [dDisp1, Option.bind_eq_some_iff, Option.map_eq_some_iff] at h
  obtain ⟨⟨x1, ρ1⟩, h1, key, h2, ⟨x3, ρ3⟩, h3, e0⟩ := h
  cases e0
  intro p hp
  have s0 := s.newO (o := .dK []) hp
  have t0 : Tr F H S F (upd H p (.dK [])) S := Tr.newO hp
  have fp : F p = none := fresh_back s.ex hp
  have nS : p ∉ S := s.fresh hp
  refine hk F _ σ ρ S s0 _ _ h1 _ fun a F1 H1 S1 t1 s1 r1 => ?_
  have f1 : F1 p = none := t1.own p _ upd_same rfl fp nS
  have g1 : H1 p = some (.dK []) := t1.keep p _ upd_same nS
  have n1 : p ∉ S1 := fun hm => (t1.sub p hm).elim nS fun z => by rw [upd_same] at z; cases z
  refine hv F1 H1 σ ρ1 S1 s1 _ _ h3 _ fun b F2 H2 S2 t2 s2 r2 => ?_
  have f2 : F2 p = none := t2.own p _ g1 rfl f1 n1
  have g2 : H2 p = some (.dK []) := t2.keep p _ g1 n1
  have n2 : p ∉ S2 := fun hm => (t2.sub p hm).elim n1 fun z => by rw [g1] at z; cases z
  have hkey := keyD_ok h2 r1
  subst hkey
  refine ⟨g2, [(key, b)], rfl, (by show 1 ≤ 15; decide), ?_⟩
  have s3 := s2.loose (u' := .dK (mergeK [] [(key, b)])) f2 n2
  have t3 := ((t0.trans t1).trans t2).loose (u' := .dK (mergeK [] [(key, b)])) hp
  refine q _ F2 _ S2 t3 s3 (nw_ok s3 hp n2 (.dic f2 upd_same ?_))
  show KvAll F2 [(key, b)] [(key, x3)]
  exact .cons ⟨rfl, r2⟩ .nil
theorem sd_din {i : Nat} {te : TE} {e : DI} (he : SdI cl K te e) : SdI cl K (tDIn te (tVar i)) (dDIn false i e) := fun F H σ ρ S s x ρ' h Q q => by
  simp only [dDIn, Option.bind_eq_some_iff, Option.map_eq_some_iff] at h
  obtain ⟨⟨x1, ρ1⟩, h1, k, h2, kvs, h3, e0⟩ := h
  cases e0
  refine he F H σ ρ S s _ _ h1 _ fun v F1 H1 S1 t1 s1 r1 => ?_
  obtain ⟨a, vs, e1, e2, e3, _⟩ := s1.dic (ownD_eq h3)
  have hkey := keyD_ok h2 r1
  subst hkey
  refine ⟨_, e1, a, valV vs k, rfl, DGet.k e2, ?_⟩
  have hb : (valV vs k).isSome = (valD kvs k).isSome := by
    cases hd : valD kvs k with
    | none => rw [e3.val.2 hd]; rfl
    | some d => obtain ⟨v, g, _⟩ := e3.val.1 d hd; rw [g]; rfl
  rw [hb]
  exact q _ F1 H1 S1 t1 s1 (.bl _)
theorem sd_dnotin {i : Nat} {te : TE} {e : DI} (he : SdI cl K te e) : SdI cl K (tDNotIn te (tVar i)) (dDIn true i e) := fun F H σ ρ S s x ρ' h Q q => by
  simp only [dDIn, Option.bind_eq_some_iff, Option.map_eq_some_iff] at h
  obtain ⟨⟨x1, ρ1⟩, h1, k, h2, kvs, h3, e0⟩ := h
  cases e0
  refine he F H σ ρ S s _ _ h1 _ fun v F1 H1 S1 t1 s1 r1 => ?_
  obtain ⟨a, vs, e1, e2, e3, _⟩ := s1.dic (ownD_eq h3)
  have hkey := keyD_ok h2 r1
  subst hkey
  refine ⟨_, e1, a, valV vs k, rfl, DGet.k e2, ?_⟩
  have hb : (valV vs k).isSome = (valD kvs k).isSome := by
    cases hd : valD kvs k with
    | none => rw [e3.val.2 hd]; rfl
    | some d => obtain ⟨v, g, _⟩ := e3.val.1 d hd; rw [g]; rfl
  rw [hb]
  exact q _ F1 H1 S1 t1 s1 (.bl _)
theorem sd_dget {i : Nat} {te : TE} {e : DI} (he : SdI cl K te e) : SdI cl K (tDGet (tVar i) te) (dDGet i e) := fun F H σ ρ S s x ρ' h Q q => by
  simp only [dDGet, Option.bind_eq_some_iff, Option.map_eq_some_iff] at h
  obtain ⟨kvs0, h0, ⟨x1, ρ1⟩, h1, k, h2, kvs, h3, d, h4, e0⟩ := h
  cases e0
  obtain ⟨a0, vs0, e10, _⟩ := s.dic (ownD_eq h0)
  refine ⟨_, e10, ?_⟩
  refine he F H σ ρ S s _ _ h1 _ fun v F1 H1 S1 t1 s1 r1 => ?_
  obtain ⟨a, vs, e1, e2, e3, _⟩ := s1.dic (ownD_eq h3)
  rw [e10] at e1
  cases e1
  have hkey := keyD_ok h2 r1
  subst hkey
  obtain ⟨v, g1, g2⟩ := e3.val.1 _ h4
  exact ⟨a0, v, rfl, by rw [← g1]; exact DGet.k e2, q v F1 H1 S1 t1 s1 g2⟩
theorem ss_dput {i : Nat} {te tv : TE} {e v : DI} (he : SdI cl K te e) (hv : SdI cl K tv v) : SdS cl K W pn (sDPut (tVar i) te tv) (dDPut i e v) := fun F H σ ρ S s fl ρ' h D p => by
  simp only [dDPut, Option.bind_eq_some_iff] at h
  obtain ⟨⟨x, ρ1⟩, h1, kvs0, h0, ⟨y, ρ2⟩, h2, k, hk, kvs, h3, h4⟩ := h
  split at h4
  · next hl =>
    cases h4
    refine hv F H σ ρ S s _ _ h1 _ fun a F1 H1 S1 t1 s1 r1 => ?_
    obtain ⟨b, vs, e1, e2, e3, _⟩ := s1.dic (ownD_eq h0)
    refine ⟨_, e1, ?_⟩
    refine he F1 H1 σ ρ1 S1 s1 _ _ h2 _ fun u F2 H2 S2 t2 s2 r2 => ?_
    obtain ⟨b', vs', e1', e2', e3', kk⟩ := s2.dic (ownD_eq h3)
    rw [e1] at e1'
    cases e1'
    have hkey := keyD_ok hk r2
    subst hkey
    obtain ⟨S3, s3, t3⟩ := kk (putK vs' k a) (putD kvs k x) (e3'.put (r1.mono t2.ex))
    exact ⟨b, _, rfl, DPut.k e2' (by rw [e3'.len]; exact hl), p F2 _ σ S3 ((t1.trans t2).trans t3) s3 (Pin.refl _ _)⟩
  · cases h4
theorem sd_tin {i : Nat} {te : TE} {e : DI} (he : SdI cl K te e) : SdI cl K (tDIn te (tVar i)) (dTIn false i e) := fun F H σ ρ S s x ρ' h Q q => by
  simp only [dTIn, Option.bind_eq_some_iff, Option.map_eq_some_iff] at h
  obtain ⟨⟨x1, ρ1⟩, h1, k, h2, kvs, h3, e0⟩ := h
  cases e0
  refine he F H σ ρ S s _ _ h1 _ fun v F1 H1 S1 t1 s1 r1 => ?_
  obtain ⟨a, vs, e1, e2, e3, _⟩ := s1.dct (ownT_eq h3)
  obtain ⟨b, rfl, hb⟩ := keyT_ok h2 r1
  refine ⟨_, e1, a, valV vs k, rfl, DGet.t e2 (s1.ex _ _ hb), ?_⟩
  have hb : (valV vs k).isSome = (valD kvs k).isSome := by
    cases hd : valD kvs k with
    | none => rw [e3.val.2 hd]; rfl
    | some d => obtain ⟨v, g, _⟩ := e3.val.1 d hd; rw [g]; rfl
  rw [hb]
  exact q _ F1 H1 S1 t1 s1 (.bl _)
theorem sd_tnotin {i : Nat} {te : TE} {e : DI} (he : SdI cl K te e) : SdI cl K (tDNotIn te (tVar i)) (dTIn true i e) := fun F H σ ρ S s x ρ' h Q q => by
  simp only [dTIn, Option.bind_eq_some_iff, Option.map_eq_some_iff] at h
  obtain ⟨⟨x1, ρ1⟩, h1, k, h2, kvs, h3, e0⟩ := h
  cases e0
  refine he F H σ ρ S s _ _ h1 _ fun v F1 H1 S1 t1 s1 r1 => ?_
  obtain ⟨a, vs, e1, e2, e3, _⟩ := s1.dct (ownT_eq h3)
  obtain ⟨b, rfl, hb⟩ := keyT_ok h2 r1
  refine ⟨_, e1, a, valV vs k, rfl, DGet.t e2 (s1.ex _ _ hb), ?_⟩
  have hb : (valV vs k).isSome = (valD kvs k).isSome := by
    cases hd : valD kvs k with
    | none => rw [e3.val.2 hd]; rfl
    | some d => obtain ⟨v, g, _⟩ := e3.val.1 d hd; rw [g]; rfl
  rw [hb]
  exact q _ F1 H1 S1 t1 s1 (.bl _)
theorem ss_tput {i : Nat} {te tv : TE} {e v : DI} (he : SdI cl K te e) (hv : SdI cl K tv v) : SdS cl K W pn (sDPut (tVar i) te tv) (dTPut i e v) := fun F H σ ρ S s fl ρ' h D p => by
  simp only [dTPut, Option.bind_eq_some_iff] at h
  obtain ⟨⟨x, ρ1⟩, h1, kvs0, h0, ⟨y, ρ2⟩, h2, k, hk, kvs, h3, h4⟩ := h
  split at h4
  · next hl =>
    cases h4
    refine hv F H σ ρ S s _ _ h1 _ fun a F1 H1 S1 t1 s1 r1 => ?_
    obtain ⟨b, vs, e1, e2, e3, _⟩ := s1.dct (ownT_eq h0)
    refine ⟨_, e1, ?_⟩
    refine he F1 H1 σ ρ1 S1 s1 _ _ h2 _ fun u F2 H2 S2 t2 s2 r2 => ?_
    obtain ⟨b', vs', e1', e2', e3', kk⟩ := s2.dct (ownT_eq h3)
    rw [e1] at e1'
    cases e1'
    obtain ⟨kb, rfl, hkb⟩ := keyT_ok hk r2
    obtain ⟨S3, s3, t3⟩ := kk (putK vs' k a) (putD kvs k x) (e3'.put (r1.mono t2.ex))
    exact ⟨b, _, rfl, DPut.t e2' (s2.ex _ _ hkb) (by rw [e3'.len]; exact hl), p F2 _ σ S3 ((t1.trans t2).trans t3) s3 (Pin.refl _ _)⟩
  · cases h4
end
end DL

set_option Elab.async false
set_option linter.all false
set_option maxRecDepth 100000
set_option maxHeartbeats 3200000
/-! DLg: set(list) sorted, sorted(dict), sorted pairs, repr -/
namespace DL
open PySem L2 Evl PySem.Spec PyProof.Rows

section
variable {P : Program} {w : World} {A : Around} {E : Value → Shared → Prop} {s : Shared}
/-- a set just made -/
abbrev setNew (w : World) : Obj := { cls := .type "set", dict := none, data := .set #[] 0 (.fresh 0 0 (!w.params.followText "set-order")) }
/-- set(xs) of a list of ints -/
theorem set_of_list {l : Addr} {items : Array Value} (ns : List Int) {Q : Value → Shared → Prop} (hh : A.handled = none) (hl : s.heap.IsList l items) (hit : IntsAre items.toList ns) (hb : ns.length + 1 < scanBound)
    (h : ∀ (h' : Heap) (tk c : Nat), SetR w h' s.heap.objs.size (fun j => decide (j ∈ ns)) c → c ≤ ns.length → (∀ b o, s.heap.get? b = some o → h'.get? b = some o) → Q (.ref s.heap.objs.size) { s with heap := h', toks := tk }) :
    wpAny (model P w) A (call (.type "set") [.ref l]) Q E s := by
  have hisz : items.size = ns.length := by
    have q := IntsAre.length hit
    simpa using q
  obtain ⟨c, tl, hmro⟩ := F.called_set.mro
  have k1 := F.called_set.made
  have k2 := F.called_set.sub
  refine wpAny_call (codeAny_of_tree (show wpAny _ _ (callAny (.type "set") _) _ _ _ from wpAny_pure ⟨Code.quiet_builtin _ (by decide +kernel), codeAny_builtin F.entry_type_call ?_⟩))
  rw [Around.under_plain (weight_type_call_type "set" [.ref l] []) rfl]
  have k3 := F.called_set.notType
  have k4 := F.called_set.canCreate
  have k5 := F.typeCall_set_1 (.ref l)
  repeat (any_goals (first | assumption | wp_step))
  refine codeAny_mono (code_set_led1 (.ref l) (E := E) (Q₁ := fun obj t => obj = .ref s.heap.objs.size ∧ t = { s with heap := s.heap.push (setNew w) }) ⟨rfl, rfl⟩) fun r t hr => ?_
  cases r with
  | error e => exact hr
  | ok fl =>
    cases fl with
    | next => exact hr.elim
    | brk => exact hr.elim
    | cont => exact hr.elim
    | ret obj =>
      obtain ⟨rfl, rfl⟩ := hr
      have hS : (s.heap.push (setNew w)).get? s.heap.objs.size = some (setNew w) := Heap.get?_push_size _ rfl
      have hT : Shared.TypeIs { s with heap := s.heap.push (setNew w) } (.ref s.heap.objs.size) "set" := ⟨_, hS, rfl⟩
      have k6 := F.called_set.init.lookup
      have k7 := F.called_set.init.bind (.ref s.heap.objs.size)
      repeat (any_goals (first | assumption | wp_step))
      refine codeAny_mono (codeAny_call_builtin (R := wants (fun r t => r = .none ∧ ∃ h' tk c, t = { s with heap := h', toks := tk } ∧ SetR w h' s.heap.objs.size (fun j => decide (j ∈ ns)) c ∧ c ≤ ns.length ∧ (∀ b o, s.heap.get? b = some o → h'.get? b = some o)) E)
        F.called_set.init.plain F.entry_set_init (check_set_init_1 hT ?_)) fun r2 t2 hr2 => ?_
      · obtain ⟨⟨ocls, odict, odata, oslots⟩, hol, hcl, nl, hdl⟩ := hl
        simp only at hcl hdl
        subst hcl
        subst hdl
        have hol' : (s.heap.push (setNew w)).get? l = some { cls := .type "list", dict := odict, data := .seq items nl, slots := oslots } := Heap.get?_push_of_some _ hol
        have k8 := F.sub_list_set
        have k9 := F.sub_list_frozenset
        have k10 : (Value.type "list" == Value.type "dict") = false := by decide
        have hl1 : (s.heap.push (setNew w)).IsList l items := ⟨_, hol', rfl, nl, rfl⟩
        unfold Builtin.«set.__init__» noKeywords Builtin.Frozenset.updateFrom
        generalize hPI : pyIter = PI
        wp_walk
        subst hPI
        refine wpAny_pyIter_list hl1 (wpAny_bind (wpAny_runValue ?_))
        have hlS : l < s.heap.objs.size := Heap.lt_size hol
        have hh3 : A.in1.in1.in1.handled = none := by simp [hh]
        have hne : l ≠ (s.heap.push (setNew w)).objs.size := by
          rw [Heap.size_push]
          exact Nat.ne_of_lt (Nat.lt_succ_of_lt hlS)
        have hSf : s.heap.objs.size ∉ [(s.heap.push (setNew w)).objs.size, l] := by
          rw [Heap.size_push]
          simp only [List.mem_cons, List.not_mem_nil, or_false, not_or]
          exact ⟨Nat.ne_of_lt (Nat.lt_succ_self _), Nat.ne_of_gt hlS⟩
        have hval : ∀ (i : Nat) (v : Value), items[i]? = some v → ∃ k t, ns[i]? = some k ∧ v = .int k t := fun i v hv => by
          have hi : i < ns.length := by
            rw [← hisz]
            exact (Array.getElem?_eq_some_iff.mp hv).1
          obtain ⟨t, e⟩ := IntsAre.int_at hit i v (by rw [Array.getElem?_toList]; exact hv)
          refine ⟨ns[i], t, List.getElem?_eq_getElem hi, ?_⟩
          rw [e, List.getD_eq_getElem?_getD, List.getElem?_eq_getElem hi]
          rfl
        refine set_update_ints ((Walks.list hh3 _ l hne items).toS) s.heap.objs.size hSf ns hisz hb hval (items.size - 0) 0 _ (by omega) (Nat.zero_le _) ⟨⟨_, Heap.get?_push_size _ rfl, rfl, rfl⟩, (hl1.push _)⟩ ?g1 ?g2
        case g1 =>
          exact ⟨0, Nat.le_refl 0, setR_new_at (Heap.get?_push_of_some _ hS)⟩
        case g2 =>
          rintro ⟨h', g2, d', tk', os'⟩ c' hm hc' hS'
          obtain rfl : g2 = s.gens := hm.gens
          obtain rfl : d' = s.drawn := hm.drawn
          obtain rfl : os' = s.os := hm.os
          refine (show wpAny _ _ _ _ _ _ from wpAny_pure (show wpAny _ _ (ret Value.none) _ _ _ from wpAny_pure ⟨rfl, h', tk', c', rfl, hS', by rw [← hisz]; exact hc', fun b o e => ?_⟩))
          have hb0 : b < s.heap.objs.size := Heap.lt_size e
          refine hm.heap b o ?_ (Heap.get?_push_of_some _ (Heap.get?_push_of_some _ e))
          rw [Heap.size_push]
          simp only [List.mem_cons, List.not_mem_nil, or_false, not_or]
          exact ⟨Nat.ne_of_lt hb0, Nat.ne_of_lt (Nat.lt_succ_of_lt hb0)⟩
      · cases r2 with
        | error e => exact hr2
        | ok fl2 =>
          cases fl2 with
          | next => exact hr2.elim
          | brk => exact hr2.elim
          | cont => exact hr2.elim
          | ret r =>
            obtain ⟨rfl, h', tk, c', rfl, hS', hc', hk'⟩ := hr2
            repeat (any_goals (first | assumption | wp_step))
            exact h _ _ _ hS' hc' hk'
end
section
variable {X : Cx}
def rSetOf (K : PySem.W.Frag) (w : World) : List V → Hp → VK → Prop := fun vs H Q => ∃ (a : Addr) (ns : List Int), vs = [V.ref a] ∧ SqL K H a (ns.map V.int) ∧ ns.length + 1 < scanBound ∧ ∀ p c, c ≤ ns.length → H p = none → Q (.ref p) (upd H p (SetO w p (fun j => decide (j ∈ ns)) c))
theorem cr_setL (hc : X.calm = true) : CallR X (.type "set") (rSetOf X.K X.w) := by
  intro pins s σ H vs us Q I r h
  obtain ⟨a, ns, rfl, hs, hb, q⟩ := h
  obtain ⟨its, rv, hl, hz⟩ := I.list hs
  rw [Vals.ref1 r]
  refine set_of_list ns (I.ok.hd hc) hl.isList (by simpa using rv.ints) hb fun h' tk c new hc' k => ?_
  have hn := I.hok.fresh (Nat.le_refl s.heap.objs.size)
  exact ⟨.ref _, upd H s.heap.objs.size (SetO X.w s.heap.objs.size (fun j => decide (j ∈ ns)) c), I.laid (t' := tk) k (Nat.le_refl _) (setO_new new), rfl, q _ c hc' hn⟩
/-- sorted(d), a dict whose keys are ints -/
def rSortedDI : List V → Hp → VK → Prop := fun xs H Q => ∃ (a : Addr) (kvs : List (Key × V)) (ks : List Int), xs = [.ref a] ∧ Rd H a (.dK kvs) ∧ kvs.map (·.1) = ks.map Sum.inl ∧
    ∀ (ys : List Int) (p : Addr), ys.Perm ks → ys.Pairwise (· ≤ ·) → H p = none → Q (.ref p) (upd H p (.lst (ys.map V.int)))
theorem ints_at : ∀ {us : List Value} {ks : List Int}, us.length = ks.length → (∀ (j : Nat) (v : Value), us[j]? = some v → ∃ (x : Int) (t : Tok), ks[j]? = some x ∧ v = Value.int x t) → IntsAre us ks
  | [], [], _, _ => .nil
  | u :: us, k :: ks, hl, h => by
    obtain ⟨x, t, e1, rfl⟩ := h 0 u rfl
    cases (show k = x from Option.some.inj e1)
    exact .cons _ _ (ints_at (by simpa using hl) fun j v e => by simpa using h (j + 1) v (by simpa using e))
  | [], _ :: _, hl, _ => by simp at hl
  | _ :: _, [], hl, _ => by simp at hl
theorem cr_sortedDI (hcalm : X.calm = true) : CallR X (.builtin "sorted") rSortedDI := by
  intro pins s σ H xs us Q I r q
  obtain ⟨a, kvs, ks, rfl, hd, hks, q⟩ := q
  obtain ⟨u, rfl, rx⟩ := vals1 r
  cases rx
  obtain ⟨z, lo, vs, rel, dd⟩ := dk_rd I.hok hd
  obtain ⟨ep, hat⟩ := dd.dictAt
  have hkeys : vs.map (·.1) = ks.map Sum.inl := rel.keys.symm.trans hks
  have hl : vs.length = ks.length := by simpa using congrArg List.length hkeys
  have hz : vs.length ≤ sizeLine := by rw [← rel.length]; exact z
  refine Calls.call_function_entry kind_sorted plain_sorted entry_sorted (args_sorted1 _) ?_
  unfold Builtin.«sorted»
  refine wpAny_bind (m := checkCount "sorted" 1 1 _) (wpAny_pure (wpAny_bind (PySem.W.kdu_collect (A := X.A.in1) (PySem.W.kdl_dict (knd := mixKind X.prog X.w) (kvs := vs) (ep := ep) lo) (I.ok.hd hcalm) hat hz fun h' tk acc hk hacc => ?_)))
  have hal : acc.toList.length = ks.length := by rw [Array.length_toList, hacc.1, hl]
  have hS : IntsAre acc.toList ks := ints_at hal fun j v e => by
    obtain ⟨k, x, e1, e2⟩ := hacc.2 j v (by rw [← Array.getElem?_toList]; exact e)
    have e3 : (vs.map (·.1))[j]? = some k := by
      rw [List.getElem?_map, e1]
      rfl
    rw [hkeys, List.getElem?_map] at e3
    cases e4 : ks[j]? with
    | none =>
      rw [e4] at e3
      cases e3
    | some y =>
      rw [e4] at e3
      cases (show Sum.inl y = k from Option.some.inj e3)
      obtain ⟨t, ev⟩ := Value.isInt_shape (k := y) (v := v) e2
      exact ⟨y, t, rfl, ev⟩
  have I1 : Inv X pins σ H { s with heap := h', toks := tk } := I.kept hk
  refine wpAny_bind (wpAny_newList ?_ (by rw [hal, ← hl]; exact hz))
  have hoL : (h'.push (seqObj "list" acc.toList.toArray 0)).get? h'.objs.size = some (seqObj "list" acc.toList.toArray 0) := Heap.get?_push_size _ rfl
  refine (show wpAny _ _ _ _ _ { s with heap := h'.push (seqObj "list" acc.toList.toArray 0), toks := tk } from wpAny_bind (wpAny_holding (wpAny_call_entry slot_list_sort ⟨_, hoL, rfl⟩ entry_list_sort
    (SrtO.list_sort_ord SrtO.swo_int (s := { s with heap := h'.push (seqObj "list" acc.toList.toArray 0), toks := tk }) hoL (by rw [hal, ← hl]; exact hz) (fun h2 => SrtO.ints_sortable hS h2) fun out h1 h2 => ⟨_, rfl, ?_⟩) (args_list_sort _))))
  obtain ⟨k1, k2, k3⟩ := SrtO.ints_out hS h1 h2
  obtain ⟨e', he'⟩ := sortedHeap_at (vs := acc.toList) (out := out.toArray) hoL
  have hlen : ((out.map SrtO.iv).map V.int).length ≤ sizeLine := by
    rw [List.length_map, k2.length_eq, ← hl]
    exact hz
  refine wpAny_pure ⟨_, rfl, .ref h'.objs.size, upd H h'.objs.size (.lst ((out.map SrtO.iv).map V.int)), I1.laid (t' := tk) (fun b u e => ?_) (Nat.le_refl _)
    (show ObjOk X.prog X.w _ _ _ (.lst ((out.map SrtO.iv).map V.int)) from ⟨hlen, out, e', vals_of_ints k1, he'⟩), rfl, q _ _ k2 k3 (I1.hok.fresh (Nat.le_refl _))⟩
  have hb : b < h'.objs.size := Heap.lt_size e
  rw [sortedHeap_old (Nat.ne_of_lt hb) (by rw [size_push']; exact Nat.lt_succ_of_lt hb)]
  exact Heap.get?_push_of_some _ e
theorem cr_reprB : CallR X (.builtin "repr") (fun xs H Q => ∃ b, xs = [.bl b] ∧ Q (.str (if b then "True" else "False")) H) := by
  intro pins s σ H xs us Q I r h
  obtain ⟨i, rfl, q⟩ := h
  obtain ⟨u, rfl, rx⟩ := vals1 r
  cases rx
  exact PySem.P.repr_of_bool ⟨.str _, H, I.tok _, ⟨_, rfl⟩, q⟩
end

section
variable {cl : Nat → Addr} {K : PySem.W.Frag} {pn : List Nat}
/-- sorted(set(xs)) -/
def fSortSet (d : PyData) : Option PyData := (intsOf d).bind fun ns => if ns.length < 64 then some (.list ((usort ns).map .int)) else none
theorem up_strict {l : List Int} (h : l.Pairwise (· ≤ ·)) (n : l.Nodup) : l.Pairwise (· < ·) := by
  have : l.Pairwise fun a b => a ≤ b ∧ a ≠ b := h.and n
  exact this.imp fun h => by omega
theorem usort_up (ns : List Int) : (usort ns).Pairwise (· < ·) := by
  unfold usort
  exact up_strict (isort_up _) ((isort_perm _).nodup_iff.mpr (once_nodup _))
theorem sd_sortSet {w : World} {te : TE} {a : DI} (ha : SdV cl K te a) : SdI cl K (tCB (rSortedSet w) (tCons (tCB (rSetOf K w) (tCons te tNil)) tNil)) (dUn fSortSet a) := fun F H σ ρ S s x ρ' h Q q => by
  simp only [dUn, Option.bind_eq_some_iff, Option.map_eq_some_iff] at h
  obtain ⟨⟨x1, ρ1⟩, h1, z, h3, e⟩ := h
  cases e
  simp only [fSortSet, Option.bind_eq_some_iff] at h3
  obtain ⟨ns, h4, h5⟩ := h3
  split at h5
  · next hl =>
    cases h5
    refine ha F H σ ρ S s _ _ h1 _ fun v F1 H1 S1 t1 s1 r1 => ?_
    obtain ⟨p, rfl, h6⟩ := ints_vw s1.ex r1 h4
    refine ⟨p, ns, rfl, sq_of h6, by unfold scanBound; omega, fun a c hc ha => ?_⟩
    refine ⟨a, _, c, rfl, upd_same, by omega, fun ms b up mem hlen hb => ?_⟩
    have hm : ms = usort ns := lt_unique up (usort_up ns) fun k => by
      rw [mem k, usort_mem]
      simp
    subst hm
    have n1 : Tn F1 H1 (upd F1 a (SetO w a (fun j => decide (j ∈ ns)) c)) _ := Tn.new s1.ex ha
    have n2 := Tn.new (o := .lst ((usort ns).map V.int)) n1.exx hb
    exact q _ _ _ _ ((t1.then n1).then n2) (n2.sr (n1.sr s1)) (.lst upd_same (RpAll.ofInts _))
  · cases h5
/-- sorted of an owned dict with number keys -/
def intKeys {α : Type} : List (Key × α) → Option (List Int)
  | [] => some []
  | (.inl i, _) :: r => (intKeys r).map (i :: ·)
  | _ => none
theorem intKeys_ok {α : Type} : ∀ {kvs : List (Key × α)} {ks : List Int}, intKeys kvs = some ks → kvs.map (·.1) = ks.map Sum.inl
  | [], _, h => by cases h; rfl
  | (.inl i, _) :: r, _, h => by
    simp only [intKeys, Option.map_eq_some_iff] at h
    obtain ⟨ks, h, rfl⟩ := h
    rw [List.map_cons, List.map_cons, intKeys_ok h]
  | (.inr _, _) :: _, _, h => by cases h
theorem KvAll.keys {κ : Type} {F : Hp} : ∀ {a : List (κ × V)} {b : List (κ × PyData)}, KvAll F a b → a.map (·.1) = b.map (·.1)
  | _, _, .nil => rfl
  | (k1, v1) :: a, (k2, d2) :: b, .cons r t => by
    rw [List.map_cons, List.map_cons, KvAll.keys (show KvAll F a b from t)]
    rw [show k1 = k2 from r.1]
def dSortD (i : Nat) : DI := fun ρ => (ownD ρ[i]?).bind fun kvs => (intKeys kvs).map fun ks => (.list ((isort ks).map .int), ρ)
theorem sd_sortD (i : Nat) : SdI cl K (tCB rSortedDI (tCons (tVar i) tNil)) (dSortD i) := fun F H σ ρ S s x ρ' h Q q => by
  simp only [dSortD, Option.bind_eq_some_iff, Option.map_eq_some_iff] at h
  obtain ⟨kvs, h0, ks, h1, e⟩ := h
  cases e
  obtain ⟨a, vs, e1, e2, e3, _⟩ := s.dic (ownD_eq h0)
  refine ⟨_, e1, a, vs, ks, rfl, .inl e2, e3.keys.trans (intKeys_ok h1), fun ys p hp up hn => ?_⟩
  have := up_unique (hp.trans (isort_perm ks).symm) up (isort_up ks)
  subst this
  have n := Tn.new (o := .lst ((isort ks).map V.int)) s.ex hn
  exact q _ _ _ _ n.tr (n.sr s) (.lst upd_same (RpAll.ofInts _))
/-- sorted of pairs of numbers -/
def asPair : PyData → Option (Int × Int)
  | .tuple [.int i, .int j] => some (i, j)
  | _ => none
def asPairs : List PyData → Option (List (Int × Int))
  | [] => some []
  | d :: ds => (asPair d).bind fun p => (asPairs ds).map (p :: ·)
def unPair (p : Int × Int) : PyData := .tuple [.int p.1, .int p.2]
theorem asPair_ok {d : PyData} {p : Int × Int} (h : asPair d = some p) : d = unPair p := by
  unfold asPair at h
  split at h
  · cases h; rfl
  · cases h
theorem asPairs_ok : ∀ {ds : List PyData} {ps : List (Int × Int)}, asPairs ds = some ps → ds = ps.map unPair
  | [], _, h => by cases h; rfl
  | d :: ds, _, h => by
    simp only [asPairs, Option.bind_eq_some_iff, Option.map_eq_some_iff] at h
    obtain ⟨p, h1, ps, h2, rfl⟩ := h
    rw [asPair_ok h1, asPairs_ok h2]
    rfl
theorem asPairs_map : ∀ ps : List (Int × Int), asPairs (ps.map unPair) = some ps
  | [] => rfl
  | p :: ps => by simp [asPairs, unPair, asPair, asPairs_map ps]
def pairLe (p q : Int × Int) : Bool := decide (p.1 < q.1) || (decide (p.1 = q.1) && decide (p.2 ≤ q.2))
def psort (ps : List (Int × Int)) : List (Int × Int) := ps.mergeSort pairLe
def pairOfV (F : Hp) (x : V) : Int × Int := match x with
  | .ref t => match F t with
    | some (.tup [.int i, .int j]) => (i, j)
    | _ => (0, 0)
  | _ => (0, 0)
theorem pairLe_iff {p q : Int × Int} : pairLe p q = true ↔ p.1 < q.1 ∨ (p.1 = q.1 ∧ p.2 ≤ q.2) := by simp [pairLe]
theorem psort_perm (ps : List (Int × Int)) : (psort ps).Perm ps := List.mergeSort_perm _ _
theorem psort_up (ps : List (Int × Int)) : (psort ps).Pairwise fun p q => pairLe p q = true := by
  refine List.pairwise_mergeSort (fun a b c h1 h2 => ?_) (fun a b => ?_) ps
  · rw [pairLe_iff] at *
    omega
  · have : pairLe a b = true ∨ pairLe b a = true := by
      rw [pairLe_iff, pairLe_iff]
      omega
    simpa using this
theorem pair_unique {a b : List (Int × Int)} (p : a.Perm b) (h1 : a.Pairwise fun p q => pairLe p q = true) (h2 : b.Pairwise fun p q => pairLe p q = true) : a = b :=
  List.Perm.eq_of_pairwise (fun x y _ _ h3 h4 => by
    rw [pairLe_iff] at h3 h4
    exact Prod.ext (by omega) (by omega)) h1 h2 p
def fSortP (d : PyData) : Option PyData := ((asLst d).bind asPairs).map fun ps => .list ((psort ps).map unPair)
theorem rp_pair {F : Hp} {v : V} {p : Int × Int} (h : Rp F v (unPair p)) : ∃ t, v = .ref t ∧ F t = some (.tup [.int p.1, .int p.2]) := by
  obtain ⟨a, xs, rfl, h1, h2⟩ := rp_tup h
  cases h2 with
  | cons a b =>
    cases a
    cases b with
    | cons a b =>
      cases a
      cases b
      exact ⟨_, rfl, h1⟩
theorem rp_pairs {F : Hp} : ∀ {vs : List V} {ps : List (Int × Int)}, RpAll F vs (ps.map unPair) → ps = vs.map (pairOfV F) ∧ ∀ x ∈ vs, ∃ t, x = .ref t ∧ F t = some (.tup [.int (pairOfV F x).1, .int (pairOfV F x).2])
  | _, [], .nil => ⟨rfl, fun _ h => nomatch h⟩
  | v :: vs, p :: ps, .cons a b => by
    obtain ⟨h1, h2⟩ := rp_pairs b
    obtain ⟨t, rfl, h3⟩ := rp_pair a
    have e : pairOfV F (.ref t) = p := by
      unfold pairOfV
      simp only [h3]
    refine ⟨by rw [List.map_cons, e, ← h1], fun x hx => ?_⟩
    rcases List.mem_cons.mp hx with rfl | hx
    · exact ⟨t, rfl, by rw [e]; exact h3⟩
    · exact h2 x hx
theorem pairs_rp {F : Hp} : ∀ {vs : List V}, (∀ x ∈ vs, ∃ t, x = .ref t ∧ F t = some (.tup [.int (pairOfV F x).1, .int (pairOfV F x).2])) → RpAll F vs ((vs.map (pairOfV F)).map unPair)
  | [], _ => .nil
  | v :: vs, h => by
    obtain ⟨t, rfl, h1⟩ := h v (.head _)
    exact .cons (.tup h1 (.cons (.int _) (.cons (.int _) .nil))) (pairs_rp fun x hx => h x (.tail _ hx))
theorem rc_sortP : RC1 (rSortedPO K) fSortP := fun F H e x dx dz hx hf Q q => by
  simp only [fSortP, Option.map_eq_some_iff, Option.bind_eq_some_iff] at hf
  obtain ⟨ps, ⟨ds, h1, h2⟩, rfl⟩ := hf
  cases dx <;> simp [asLst] at h1
  subst h1
  obtain ⟨p, vs, rfl, h3, h4⟩ := hx.lst e
  have hds := asPairs_ok h2
  subst hds
  obtain ⟨h5, h6⟩ := rp_pairs h4
  refine ⟨p, vs, pairOfV F, rfl, sq_of h3, fun x hx => ?_, fun ys p' hs hb hn => ?_⟩
  · obtain ⟨t, rfl, h⟩ := h6 x hx
    exact ⟨t, rfl, e _ _ h⟩
  · have hy : ∀ x ∈ ys, ∃ t, x = .ref t ∧ F t = some (.tup [.int (pairOfV F x).1, .int (pairOfV F x).2]) := fun x hx => h6 x (hb.perm.mem_iff.mp hx)
    have hu : (ys.map (pairOfV F)).Pairwise fun p q => pairLe p q = true := List.pairwise_map.mpr (hs.imp fun {x y} h => by
      have h' := SrtO.lexB_no.mp h
      rw [pairLe_iff]
      omega)
    have hp : (ys.map (pairOfV F)).Perm (psort ps) := by
      rw [h5]
      exact (hb.perm.map _).trans (psort_perm _).symm
    have hq := pair_unique hp hu (psort_up ps)
    have r := pairs_rp hy
    rw [hq] at r
    exact frz_new e r hn q
def fRepr : PyData → Option PyData
  | .bool b => some (.str (if b then "True" else "False"))
  | _ => none
theorem rc_repr : RC1 (fun xs H Q => ∃ b, xs = [.bl b] ∧ Q (.str (if b then "True" else "False")) H) fRepr := fun F H e x dx dz hx hf Q q => by
  cases dx <;> simp [fRepr] at hf
  subst hf
  have := hx.bl
  subst this
  exact ⟨_, rfl, q _ F H (Tn.refl e) (.str _)⟩
end
end DL

set_option Elab.async false
set_option linter.all false
set_option maxRecDepth 100000
set_option maxHeartbeats 1000000
/-! DLg2: promises of defs where the stack's guards are told (repr wants them) -/
namespace DL
open PySem L2 Evl PySem.Spec PyProof.Rows
structure RoomG (k : Nat) (A : Around) : Prop where
  rm : Room k A
  gd : A.guards = some []
theorem RoomG.mono {j k : Nat} {A : Around} (r : RoomG k A) (h : j ≤ k) : RoomG j A := ⟨r.rm.mono h, r.gd⟩
theorem RoomG.units {k : Nat} {A : Around} (r : RoomG k A) : A.units + 64 < cLine := r.rm.units
theorem RoomG.hu {k : Nat} {A : Around} (r : RoomG k A) : A.units + 1 < cLine := L2.hu_of r.rm
structure FnOkG (P : Program) (w : World) (K : PySem.W.Frag) (mg : Str → Option Value) (base : Heap) (CX : CXT) (k : Nat) (f : Addr) (fd : FuncData) (ps : List Str) (sp : Sp) : Prop where
  len : ∀ vs H Q E, sp vs H Q E → vs.length = ps.length
  go : ∀ (A : Around) (outer : List Env) (s : Shared) (H : Hp) (ar : Args) (us : List Value) (vs : List V) (Q : VK) (E : XK), RoomG k A → Env0 P w K mg base A outer s H → BindsTo s fd ar (ps.zip us) → Vals vs us → sp vs H Q E →
    codeAny (model P w) A (.call (.ref f) ar) (CR CX outer P w H s Q E) s
section
variable {P : Program} {w : World} {K : PySem.W.Frag} {mg : Str → Option Value} {base : Heap} {CX : CXT} {k : Nat} {f : Addr} {fd : FuncData} {ps : List Str} {sp : Sp}
theorem FnOkG.of (F : FnOk P w K mg base CX k f fd ps sp) : FnOkG P w K mg base CX k f fd ps sp := ⟨F.len, fun A o s H a us vs Q E hr => F.run A o s H a us vs Q E hr.rm⟩
theorem FnOkG.mono {j : Nat} (F : FnOkG P w K mg base CX j f fd ps sp) (h : j ≤ k) : FnOkG P w K mg base CX k f fd ps sp := ⟨F.len, fun A o s H a us vs Q E hr => F.go A o s H a us vs Q E (hr.mono h)⟩
theorem FnOkG.imp {sp' : Sp} (F : FnOkG P w K mg base CX k f fd ps sp) (h : ∀ vs H Q E, sp' vs H Q E → sp vs H Q E) : FnOkG P w K mg base CX k f fd ps sp' :=
  ⟨fun vs H Q E q => F.len vs H Q E (h vs H Q E q), fun A o s H a us vs Q E hr e b r q => F.go A o s H a us vs Q E hr e b r (h vs H Q E q)⟩
/-- a def by its body -/
theorem FnOkG.body {N : List Str} {name qual : Str} {params : Arguments} {body : List Stmt} {scope : Scope} {dV kV doc pm cdv ct oc : Value} {an od : Option Addr} {osl : Array (Option Value)} (lk : K.lookup f = some ⟨oc, od, .func (PySem.W.fnOf name qual params body scope dV kV doc pm an cdv ct), osl⟩) (hcd : PySem.W.codeIn K cdv qual = true)
    (S : FnScope N ps scope) (len : ∀ vs H Q E, sp vs H Q E → vs.length = ps.length)
    (hb : ∀ (A : Around) (outer : List Env) (s : Shared) (H : Hp) (vs : List V) (Q : VK) (E : XK), RoomG k (A.deeper (envOfC qual scope s.heap.objs.size f cdv)) → sp vs H Q E →
      ∃ t, PSs (cxOf CX P w K mg base N qual scope f cdv A outer s H E) body t ∧ t { nx := fun _ H' => Q .non H', rt := Q } (L2.start N vs) H) : FnOkG P w K mg base CX (k + 1) f (PySem.W.fnOf name qual params body scope dV kV doc pm an cdv ct) ps sp :=
  ⟨len, fun A outer s H ar us vs Q E hr e0 hbi r h => LamX.run_ofS lk hcd S hr.rm e0 hbi r (len _ _ _ _ h) fun hr' => hb A outer s H vs Q E ⟨hr', hr.gd⟩ h⟩
end
section
variable {X : Cx} {CX : CXT} {k : Nat} {f : Addr} {fd : FuncData} {ps : List Str} {sp : Sp} {dvs : List V} {ds : List Value} {E : L2.St → XK} {x : Str} {p pos : Pos} {e : Expr} {es : List Expr} {t : TA}
theorem run_g {pins : List (Addr × Obj)} {σ : L2.St} {H : Hp} {s : Shared} {Q : VK} {us : List Value} {vs : List V} (F : FnOkG X.prog X.w X.K X.mg X.base CX k f fd ps sp) (hr : RoomG k X.A) (hb : Binds X.K fd ps ds) (hd : Vals dvs ds) (hx : PassesAt CX X σ (E σ)) (I : Inv X pins σ H s) (r : Vals vs us) (h : sp (vs ++ dvs) H Q (E σ)) :
    wpAny (model X.prog X.w) X.A (call (.ref f) us) (EP X pins σ Q) X.xe s := by
  have all : Vals (vs ++ dvs) (us ++ ds) := r.append hd
  have nn : (us ++ ds).length = ps.length := all.length.symm.trans (F.len _ _ _ _ h)
  have c := F.go X.A X.stack s H ⟨us, []⟩ (us ++ ds) (vs ++ dvs) Q (E σ) hr I.env0 (hb s us I.kIn nn) all h
  refine wpAny_call (codeAny_mono c fun res t q => ?_)
  match res, q with
  | .error z, q => exact hx pins H s z t I q
  | .ok (.ret u), q => exact I.after q
  | .ok .next, q => exact q.elim
  | .ok .brk, q => exact q.elim
  | .ok .cont, q => exact q.elim
theorem pe_callG (F : FnOkG X.prog X.w X.K X.mg X.base CX k f fd ps sp) (hr : RoomG k X.A) (hg : Gl X x) (hm : X.mg x = some (.ref f)) (hk : PySem.W.keepIn X.K (.ref f) = true) (hb : Binds X.K fd ps ds) (hd : Vals dvs ds) (hx : ∀ σ, PassesAt CX X σ (E σ)) (ha : PA X (e :: es) t)
    (hdb : (x == ("__debug__" : Str)) = false := by decide) (he : starEach (e :: es) X.env = (false, eval e X.env) :: starEach es X.env := by rfl) (hpl : (backTo pos (starEach es X.env)).any (·.1) = false := by rfl) : PE X (.Call (.Name x p) (e :: es) [] pos) (tCallSD sp dvs E t) :=
  ⟨fun pins s σ H Q I h => wpAny_Call_Name_kw (ld_glob I hg hm (PySem.W.callWith_K (h₀ := X.base) I.ok.mod.kin hk (thn (ha.run pos pins s σ H _ I h) fun us s1 z => by
    obtain ⟨vs, H1, I1, r, q⟩ := z
    exact ⟨I1.kIn, run_g F hr hb hd (hx σ) I1 r q⟩) he hpl) hdb)⟩
end
theorem passAt0 {X : Cx} {σ : L2.St} : PassesAt CX0 X σ E0 := fun _ _ _ _ _ _ h => h.elim
theorem passAtL {X : Cx} {σ : L2.St} : PassesAt (L2.CX X.prog X.w) X σ E0 := fun pins H s e s' I h => passL (X := X) pins σ H s e s' I h
end DL
namespace DL
open PySem L2 Evl PySem.Spec PyProof.Rows
/-! the law's own call -/
section
variable {P : Program} {w : World} {K : PySem.W.Frag} {mg mb : Str → Option Value} {s : Shared} {a : Addr} {H : Hp} {vs : List Value}
/-- what is not the tracked list stands in the hidden heap -/
theorem hid_ns {h : Heap} {b : Addr} {m : Str → Option Value} (one : ∀ c, H c ≠ none → c = a) (ha : h.get? a = some { cls := .type "list", data := .seq vs.toArray }) (n : h.Ns b m) : (hidT h H).Ns b m := by
  obtain ⟨o, es, ep, e, d, r⟩ := n
  refine ⟨o, es, ep, hidT_get e ?_, d, r⟩
  by_cases z : H b = none
  · exact z
  · have eb := one b z
    rw [eb, ha] at e
    have e' := Option.some.inj e
    rw [← e'] at d
    exact absurd d (fun q => by cases q)
theorem hid_mod (KX : K.In s.heap) (hns : s.heap.Ns mainGlobals mg) (hb : s.heap.Ns builtinsNs mb) (hbb : ∀ x : Str, x ≠ "__name__" → mb x = bootBuiltins x) (hlim : s.heap.NoLimit) (ha : s.heap.get? a = some { cls := .type "list", data := .seq vs.toArray })
    (one : ∀ c, H c ≠ none → c = a) (out : H a ≠ none → K.lookup a = none) : Mod K mg (hidT s.heap H) where
  kin := fun b o e => hidT_get (KX b o e) (by
    by_cases z : H b = none
    · exact z
    · have eb := one b z
      subst eb
      rw [out z] at e
      exact absurd e (fun q => by cases q))
  glob := hid_ns one ha hns
  blt := ⟨mb, hid_ns one ha hb, hbb⟩
  nolimit := by
    obtain ⟨mc, l1, l2⟩ := hlim
    exact ⟨mc, hid_ns one ha l1, l2⟩
theorem law_at {CX : CXT} {k : Nat} {fa : Addr} {fd : FuncData} {x : Str} {sp : Sp} (KX : K.In s.heap) (hns : s.heap.Ns mainGlobals mg) (hb : s.heap.Ns builtinsNs mb) (hbb : ∀ x : Str, x ≠ "__name__" → mb x = bootBuiltins x) (hlim : s.heap.NoLimit) (hg : s.gens = #[])
    (ha : s.heap.get? a = some { cls := .type "list", data := .seq vs.toArray }) (hr : RoomG k callerA) (F : ∀ base : Heap, K.In base → base.Ns mainGlobals mg → FnOkG P w K mg base CX k fa fd [x] sp) (hbind : ∀ (s : Shared) (u : Value), BindsTo s fd ⟨[u], []⟩ [(x, u)])
    (one : ∀ c, H c ≠ none → c = a) (out : H a ≠ none → K.lookup a = none) (frz : ∀ b u, H b = some u → ∃ o ys, u = .frz o (.lst ys)) (hok : HOk P w H s.heap) (hsp : sp [.ref a] H (fun v _ => v = .bl true) fun _ _ _ => False) (hCX : ∀ e t, CX [] H s (fun _ _ _ => False) e t → False) :
    codeAny (model P w) callerA (.call (.ref fa) ⟨[.ref a], []⟩) (fun r t => r = .ok (.ret (.bool true)) ∧ OldK s.heap t.heap ∧ t.os = s.os ∧ AllBare t.gens) s := by
  have M := hid_mod KX hns hb hbb hlim ha one out
  have G0 : Env0 P w K mg (hidT s.heap H) callerA [] s H := by
    refine ⟨rfl, M, fun b o e => of_hidT e, Nat.le_of_eq (hidT_size s.heap H), trivial, fun b hm => ?_, hok, .of_eq hg⟩
    cases hm
  have c := (F (hidT s.heap H) M.kin M.glob).go callerA [] s H ⟨[.ref a], []⟩ [.ref a] [.ref a] (fun v _ => v = .bl true) (fun _ _ _ => False) hr G0 (hbind s (.ref a)) (.cons rfl .nil) hsp
  refine codeAny_mono c fun res t q => ?_
  match res, q with
  | .error z, q => exact (hCX z t q).elim
  | .ok .next, q => exact q.elim
  | .ok .brk, q => exact q.elim
  | .ok .cont, q => exact q.elim
  | .ok (.ret u), q =>
    obtain ⟨v, H2, os, br, un, hok2, rv, ev⟩ := q
    have ev' : v = .bl true := ev
    rw [ev'] at rv
    have eu : u = Value.bool true := rv
    refine ⟨by rw [eu], OldK.of_keep fun b o e => ?_, os, br⟩
    cases z : H b with
    | none => exact un.keep b o e z (fun m => by cases m) (fun m => by cases m)
    | some u =>
      obtain ⟨o1, ys, rfl⟩ := frz b u z
      have g1 := (hok b _ z).1
      have g2 := (hok2 b _ (un.frzs b o1 _ z)).1
      rw [g2, ← g1]
      exact e
end
theorem law_goG {P : Program} {w : World} {K : PySem.W.Frag} {mg mb : Str → Option Value} {CX : CXT} {k : Nat} {fa a : Addr} {fd : FuncData} {x : Str} {sp : Sp} {s : Shared} {vs : List Value} {ns : List Int} (KX : K.In s.heap) (hns : s.heap.Ns mainGlobals mg) (hb : s.heap.Ns builtinsNs mb) (hbb : ∀ x : Str, x ≠ "__name__" → mb x = bootBuiltins x)
    (hlim : s.heap.NoLimit) (hg : s.gens = #[]) (ha : s.heap.get? a = some { cls := .type "list", data := .seq vs.toArray }) (hi : IntsAre vs ns) (hl : ns.length ≤ sizeLine) (hr : RoomG k callerA) (F : ∀ base : Heap, K.In base → base.Ns mainGlobals mg → FnOkG P w K mg base CX k fa fd [x] sp)
    (hbind : ∀ (s : Shared) (u : Value), BindsTo s fd ⟨[u], []⟩ [(x, u)]) (hsp : ∀ H : Hp, SqL K H a (ns.map V.int) → sp [.ref a] H (fun v _ => v = .bl true) fun _ _ _ => False) (hCX : ∀ H e t, CX [] H s (fun _ _ _ => False) e t → False) :
    codeAny (model P w) callerA (.call (.ref fa) ⟨[.ref a], []⟩) (fun r t => r = .ok (.ret (.bool true)) ∧ OldK s.heap t.heap ∧ t.os = s.os ∧ AllBare t.gens) s := by
  have vv : Vals (ns.map V.int) vs := vals_ints hi
  by_cases hk : K.lookup a = none
  · -- a list of its own: frozen
    refine law_at (H := fun b => if b = a then some (.frz { cls := .type "list", data := .seq vs.toArray } (.lst (ns.map V.int))) else none) KX hns hb hbb hlim hg ha hr F hbind (fun c h => ?_) (fun _ => hk) (fun b u h => ?_) (fun b u h => ?_) (hsp _ (.inl (.inr ⟨{ cls := .type "list", data := .seq vs.toArray }, if_pos rfl⟩))) fun e t => hCX _ e t
    · by_cases q : c = a
      · exact q
      · exact absurd (if_neg q) h
    · by_cases q : b = a
      · have h' := (if_pos q).symm.trans h
        exact ⟨_, _, (Option.some.inj h').symm⟩
      · have h' := (if_neg q).symm.trans h
        cases h'
    · by_cases q : b = a
      · have h' := (if_pos q).symm.trans h
        cases h'
        subst q
        exact ⟨ha, by rw [List.length_map]; exact hl, vs, 0, vv, ha⟩
      · have h' := (if_neg q).symm.trans h
        cases h'
  · -- one of the module's own objects
    obtain ⟨o, hk⟩ : ∃ o, K.lookup a = some o := Option.ne_none_iff_exists'.mp hk
    have eo := KX a o hk
    rw [ha] at eo
    cases eo
    refine law_at (H := fun _ => none) KX hns hb hbb hlim hg ha hr F hbind (fun c h => absurd rfl h) (fun h => absurd rfl h) (fun b u h => by cases h) (fun b u h => by cases h) (hsp _ (.inr ⟨_, vs.toArray, _, hk, rfl, rfl, rfl, ?_, by simpa using vv⟩)) fun e t => hCX _ e t
    rw [List.size_toArray, ← IntsAre.length hi] at *
    exact hl
theorem walk_g {l : PySem.W.OpenLaw} {n k : Nat} {q : Program} {loose : List Str} {XP : (Str → Option Value) → Heap → Prop} {YP : World → Heap → Prop} {d : DefRec} {K : Params → PySem.W.Frag} {CX : World → CXT} {sp : World → Sp} {x : Str} (hn : l.most = some n) (hn2 : n ≤ sizeLine) (hdf : d.params.defaults = []) (hr : RoomG k callerA)
    (hY : ∀ (w : World) (h : Heap), YP w h → (K w.params).In h) (F : ∀ (w : World) (mg : Str → Option Value) (fa : Addr) (h : Heap), (K w.params).In h → h.Ns mainGlobals mg → mg d.name = some (.ref fa) →
      ∃ fd : FuncData, (∀ (s : Shared) (u : Value), BindsTo s fd ⟨[u], []⟩ [(x, u)]) ∧ ∀ base : Heap, (K w.params).In base → base.Ns mainGlobals mg → FnOkG l.prog w (K w.params) mg base (CX w) k fa fd [x] (sp w))
    (hsp : ∀ (w : World) (H : Hp) (a : Addr) (ns : List Int), ns.length ≤ n → SqL (K w.params) H a (ns.map V.int) → sp w [.ref a] H (fun v _ => v = .bl true) fun _ _ _ => False) (hCX : ∀ (w : World) (H : Hp) (s : Shared) (e : Value) (t : Shared), CX w [] H s (fun _ _ _ => False) e t → False) :
    PySem.W.WalkO q loose XP YP l.row.toRowW d [] (fun f vs => PySem.call f vs) :=
  Att.attach_call hn hdf fun w s₀ s₁ mg mb fa o pm cd doc a vs ns G Y ho hd hcd hmg hobj hints hlen hg => by
    obtain ⟨fd, b, g⟩ := F w mg fa _ (hY w _ Y) G.T.g hmg
    exact law_goG (hY w _ Y) G.T.g G.T.b G.T.builtins G.T.nolimit hg hobj hints (Nat.le_trans hlen hn2) hr g b (fun H hS => hsp w H a ns hlen hS) fun H e t => hCX w H s₁ e t
end DL

set_option Elab.async false
set_option linter.all false
set_option maxRecDepth 100000
set_option maxHeartbeats 1000000
/-! DLh: operations by the data's kind, defs and their calls -/
namespace DL
open PySem L2 Evl

section
variable {X : Cx} {K : PySem.W.Frag}
/-! + -/
def rAddAny (K : PySem.W.Frag) : R2 := fun x y H Q => rI0 (fun i j => .int (i + j)) x y H Q ∨ (fun x y H Q => rCat x y H Q ∨ (fun x y H Q => rCatA K x y H Q ∨ ∃ i j, x = .str i ∧ y = .str j ∧ i.length + j.length ≤ sizeLine ∧ Q (.str (i ++ j)) H) x y H Q) x y H Q
theorem op_addAny : OpR X (binaryOp .Add) (rAddAny X.K) := OpR.or op_add (OpR.or op_cat (OpR.or op_catA op_add_str))
def fAddAny (d e : PyData) : Option PyData := match d, e with
  | .int i, .int j => some (.int (i + j))
  | .list xs, .list ys => fCat (.list xs) (.list ys)
  | .tuple xs, .tuple ys => fCatT (.tuple xs) (.tuple ys)
  | .str x, .str y => fCatS (.str x) (.str y)
  | _, _ => none
theorem rd_addAny : RD2 (rAddAny K) fAddAny := fun F H e x y dx dy dz hx hy hf Q q => by
  cases dx <;> cases dy <;> simp only [fAddAny] at hf
  case int.int i j => exact .inl (rd_add F H e x y _ _ _ hx hy hf Q q)
  case list.list a b => exact .inr (.inl (rd_cat F H e x y _ _ _ hx hy hf Q q))
  case tuple.tuple a b => exact .inr (.inr (.inl (rd_catT F H e x y _ _ _ hx hy hf Q q)))
  case str.str a b => exact .inr (.inr (.inr (rd_catS F H e x y _ _ _ hx hy hf Q q)))
  all_goals cases hf
/-! * -/
def rMulAny : R2 := fun x y H Q => rI CMul (fun i j => .int (i * j)) x y H Q ∨ (fun x y H Q => rI CMulW (fun i j => .int (i * j)) x y H Q ∨ rRep x y H Q) x y H Q
theorem op_mulAny : OpR X (binaryOp .Mult) rMulAny := OpR.or op_mul (OpR.or op_mulW op_rep)
def cMulB (i j : Int) : Bool := cMul i j || decide (i.natAbs.log2 + j.natAbs.log2 < 1000000)
def fMulAny (d e : PyData) : Option PyData := match d, e with
  | .int i, .int j => if cMulB i j = true then some (.int (i * j)) else none
  | .list xs, .int k => fRep (.list xs) (.int k)
  | _, _ => none
theorem rd_mulAny : RD2 rMulAny fMulAny := fun F H e x y dx dy dz hx hy hf Q q => by
  cases dx <;> cases dy <;> simp only [fMulAny] at hf
  case int.int i j =>
    split at hf
    · next h =>
      cases hf
      unfold cMulB at h
      rw [Bool.or_eq_true] at h
      rcases h with h | h
      · exact .inl (rd_mul F H e x y _ _ _ hx hy (by simp only [fMul, fIC]; rw [if_pos h]) Q q)
      · exact .inr (.inl ⟨i, j, hx.int, hy.int, (show CMulW i j from of_decide_eq_true (p := i.natAbs.log2 + j.natAbs.log2 < 1000000) h), q _ F H (Tn.refl e) (.int _)⟩)
    · cases hf
  case list.int a b => exact .inr (.inr (rd_rep F H e x y _ _ _ hx hy hf Q q))
  all_goals cases hf
/-! // -/
def cDivB (i j : Int) : Bool := decide (0 < j) && decide (j.natAbs.log2 < 9000)
def fDivB := fIC cDivB fun i j => .int (i / j)
theorem rd_divB : RD2 (rI CDivW fun i j => .int (i / j)) fDivB := rd_I (fun i j h => by simp [cDivB] at h; exact h) fun _ _ _ => .int _
/-! subscripts, slices -/
def fIxAny (d e : PyData) : Option PyData := match d with
  | .str z => fIxS (.str z) e
  | d => fIx d e
theorem rd_ixAny : RD2 (rIx K) fIxAny := fun F H e x y dx dy dz hx hy hf Q q => by
  cases dx
  case str z => exact .inr (.inr (rd_ixS F H e x y _ _ _ hx hy hf Q q))
  all_goals exact rd_ix F H e x y _ _ _ hx hy hf Q q
def rSlAny (K : PySem.W.Frag) : V → Option Int → Option Int → Hp → VK → Prop := fun x lo hi H Q => rSlL K x lo hi H Q ∨ rSlA K x lo hi H Q
theorem sl_any : SlR X (rSlAny X.K) := SlR.or L2.sl_list L2.sl_tupA
def fSlAny (d : PyData) (lo hi : Option Int) : Option PyData := match d with
  | .list ds => some (.list (cutD ds lo hi))
  | .tuple ds => some (.tuple (cutD ds lo hi))
  | _ => none
theorem rds_any : RDS (rSlAny K) fSlAny := fun F H e x dx lo hi dz hx hf Q q => by
  cases dx <;> simp only [fSlAny] at hf
  case list ds => exact .inl (rds_l F H e x _ lo hi dz hx hf Q q)
  case tuple ds => exact .inr (rds_t F H e x _ lo hi dz hx hf Q q)
  all_goals cases hf
/-! len -/
def rLenAny (K : PySem.W.Frag) : List V → Hp → VK → Prop := fun xs H Q => ∃ x n, xs = [x] ∧ LenV K x H n ∧ Q (.int n) H
def fLenAny (d : PyData) : Option PyData := match d with
  | .str z => if z.length ≤ sizeLine then some (.int (z.length : Int)) else none
  | .list ds => some (.int (ds.length : Int))
  | .tuple ds => some (.int (ds.length : Int))
  | _ => none
theorem rc_lenAny : RC1 (rLenAny K) fLenAny := fun F H e x dx dz hx hf Q q => by
  cases dx <;> simp only [fLenAny] at hf
  case str z =>
    split at hf
    · next h =>
      cases hf
      rw [hx.str]
      exact ⟨_, _, rfl, ⟨h, rfl⟩, q _ F H (Tn.refl e) (.int _)⟩
    · cases hf
  case list ds =>
    cases hf
    obtain ⟨p, vs, rfl, h1, h2⟩ := hx.lst e
    exact ⟨_, _, rfl, .inl ⟨vs, sq_of h1, rfl⟩, by rw [h2.length]; exact q _ F H (Tn.refl e) (.int _)⟩
  case tuple ds =>
    cases hf
    obtain ⟨p, vs, rfl, h1, h2⟩ := hx.tup e
    exact ⟨_, _, rfl, .inr ⟨vs, st_of h1, rfl⟩, by rw [h2.length]; exact q _ F H (Tn.refl e) (.int _)⟩
  all_goals cases hf
end

/-! ### a def that stands at the top and keeps its promise -/
def FnAt (P : Program) (w : World) (K : PySem.W.Frag) (mg : Str → Option Value) (base : Heap) (k : Nat) (x : Str) (ps : List Str) (dvs : List V) (sp : Sp) : Prop :=
  ∃ f fd ds, FnOkG P w K mg base CX0 k f fd ps sp ∧ mg x = some (.ref f) ∧ PySem.W.keepIn K (.ref f) = true ∧ Vals dvs ds ∧ Binds K fd ps ds ∧ ∃ o, K.lookup f = some o ∧ o.data = .func fd
section
variable {X : Cx} {k : Nat} {ps : List Str} {sp : Sp} {dvs : List V} {x : Str} {p pos : Pos} {e : Expr} {es : List Expr} {t : TA}
theorem pe_fn (F : FnAt X.prog X.w X.K X.mg X.base k x ps dvs sp) (hr : RoomG k X.A) (hg : Gl X x) (ha : PA X (e :: es) t) (hdb : (x == ("__debug__" : Str)) = false := by decide)
    (he : starEach (e :: es) X.env = (false, eval e X.env) :: starEach es X.env := by rfl) (hpl : (backTo pos (starEach es X.env)).any (·.1) = false := by rfl) : PE X (.Call (.Name x p) (e :: es) [] pos) (tCall sp dvs E0 t) := by
  obtain ⟨f, fd, ds, h1, h2, h3, h4, h5, _⟩ := F
  exact pe_callG (E := fun _ => E0) h1 hr hg h2 h3 h5 h4 (fun _ => passAt0) ha hdb he hpl
end
section
variable {P : Program} {w : World} {K : PySem.W.Frag} {mg : Str → Option Value} {base : Heap} {k : Nat} {x : Str} {st : Stmt} {ps : List Str} {sp : Sp}
/-- where a def of the top stands -/
def DefAt (K : PySem.W.Frag) (mg : Str → Option Value) (x : Str) (st : Stmt) : Prop := ∃ f fd, Fun K x x st f fd ∧ mg x = some (.ref f)
theorem FnAt.mono {j : Nat} {dvs : List V} (F : FnAt P w K mg base j x ps dvs sp) (h : j ≤ k) : FnAt P w K mg base k x ps dvs sp := by
  obtain ⟨f, fd, ds, h1, h2⟩ := F
  exact ⟨f, fd, ds, h1.mono h, h2⟩
theorem Fun.look {qual : Str} {f : Addr} {fd : FuncData} (F : L2.Fun K x qual st f fd) : ∃ o, K.lookup f = some o ∧ o.data = .func fd := by
  obtain ⟨oc, od, kV, doc, pm, an, cdv, ct, osl, e, l, _⟩ := F.ex
  exact ⟨_, l, rfl⟩
/-- a def with a denotation -/
theorem fn_at {cl : Nat → Addr} {N : List Str} {own : List Nat} {b : DS} {np : Nat} (D : DefAt K mg x st) (S : FnScope N ps (defScope st)) (hp : np = ps.length) (ho : own.all (fun i => decide (i < np)) = true)
    (hbi : ∀ (kV doc pm : Value) (an : Option Addr) (cdv ct : Value) (us : List Value), us.length = ps.length → bindArgs (PySem.W.fnOf x x (defArgs st) (defBody st) (defScope st) .none kV doc pm an cdv ct) ⟨us, []⟩ = pure (ps.zip us))
    (hb : ∀ (f : Addr) (cdv : Value) (A : Around) (outer : List Env) (s : Shared) (H : Hp) (E : XK), RoomG k (A.deeper (PyProof.Rows.envOfC x (defScope st) s.heap.objs.size f cdv)) →
      ∃ t, PSs (cxOf CX0 P w K mg base N x (defScope st) f cdv A outer s H E).nox (defBody st) t ∧ SdS cl K (fun _ _ _ _ => False) own t b) : FnAt P w K mg base (k + 1) x ps [] (toSp cl K np (dFn N.length own b)) := by
  obtain ⟨f, fd, F, hm⟩ := D
  obtain ⟨oc, od, kV, doc, pm, an, cdv, ct, osl, e0, lk, hcd⟩ := id F.ex
  subst e0
  refine ⟨f, _, [], FnOkG.body lk hcd S (fun vs H Q E h => h.1.trans hp) (fun A outer s H vs Q E hr h => ?_), hm, F.kp, .nil, F.binds hbi, DL.Fun.look F⟩
  obtain ⟨t, h1, h2⟩ := hb f cdv A outer s H E hr
  exact ⟨t, h1.nox, fn_reads h2 ho h⟩
end

/-! list(range(..)) -/
def rngL (a b : Int) : List PyData := rng a (b - a).toNat
theorem rgV_rp {F : Hp} (a b : Int) : RpAll F (rgV a b) (rngL a b) := by
  unfold rgV rngL rng
  generalize List.range (b - a).toNat = l
  induction l with
  | nil => exact .nil
  | cons n l ih => exact .cons (.int _) ih
def cRg (a b : Int) : Bool := decide (-(2 ^ 62) ≤ a ∧ a < 2 ^ 62 ∧ -(2 ^ 62) ≤ b ∧ b < 2 ^ 62 ∧ (b - a).toNat ≤ 2 ^ 24)
theorem cRg_ok {a b : Int} (h : cRg a b = true) : RgOk a b := of_decide_eq_true (p := -(2 ^ 62) ≤ a ∧ a < 2 ^ 62 ∧ -(2 ^ 62) ≤ b ∧ b < 2 ^ 62 ∧ (b - a).toNat ≤ 2 ^ 24) h
def dListRg1 (e : DI) : DE := fun ρ => (e ρ).bind fun r => (toI r.1).bind fun n => if cRg 0 n = true then some (.nw (.lst (rngL 0 n)), r.2) else none
def dListRg2 (a b : DI) : DE := fun ρ => (a ρ).bind fun r => (b r.2).bind fun s => (toI r.1).bind fun i => (toI s.1).bind fun j => if cRg i j = true then some (.nw (.lst (rngL i j)), s.2) else none
section
variable {cl : Nat → Addr} {K : PySem.W.Frag}
theorem se_listRg1 {te : TE} {e : DI} (h : SdI cl K te e) : SdE cl K (tLstRg (tRg1 te)) (dListRg1 e) := fun F H σ ρ S s x ρ' he Q q => by
  simp only [dListRg1, Option.bind_eq_some_iff] at he
  obtain ⟨⟨x1, ρ1⟩, h1, n, hn, h2⟩ := he
  split at h2
  · next hc =>
    cases h2
    refine h F H σ ρ S s _ _ h1 _ fun v F1 H1 S1 t1 s1 r1 => ?_
    cases x1 <;> simp [toI] at hn
    subst hn
    cases r1
    refine ⟨_, rfl, cRg_ok hc, fun p hp => ?_⟩
    exact q _ F1 _ S1 (t1.trans (Tr.newO hp)) (s1.newO hp) (nw_ok (s1.newO hp) (none_back t1.there hp) (s1.fresh hp) (.lst (fresh_back s1.ex hp) upd_same (rgV_rp _ _)))
  · cases h2
theorem se_listRg2 {ta tb : TE} {a b : DI} (ha : SdI cl K ta a) (hb : SdI cl K tb b) : SdE cl K (tLstRg (tRg2 ta tb)) (dListRg2 a b) := fun F H σ ρ S s x ρ' he Q q => by
  simp only [dListRg2, Option.bind_eq_some_iff] at he
  obtain ⟨⟨x1, ρ1⟩, h1, ⟨x2, ρ2⟩, h2, i, hi, j, hj, h3⟩ := he
  split at h3
  · next hc =>
    cases h3
    refine ha F H σ ρ S s _ _ h1 _ fun v F1 H1 S1 t1 s1 r1 => ?_
    refine hb F1 H1 σ _ S1 s1 _ _ h2 _ fun u F2 H2 S2 t2 s2 r2 => ?_
    cases x1 <;> simp [toI] at hi
    subst hi
    cases r1
    cases x2 <;> simp [toI] at hj
    subst hj
    cases r2
    refine ⟨_, _, rfl, rfl, cRg_ok hc, fun p hp => ?_⟩
    have t2' := t1.trans t2
    exact q _ F2 _ S2 (t2'.trans (Tr.newO hp)) (s2.newO hp) (nw_ok (s2.newO hp) (none_back t2'.there hp) (s2.fresh hp) (.lst (fresh_back s2.ex hp) upd_same (rgV_rp _ _)))
  · cases h3
/-- a new list from a view: list(x) -/
def dNewL (f : PyData → Option (List PyData)) (a : DI) : DE := fun ρ => (a ρ).bind fun r => (f r.1).map fun ds => (.nw (.lst ds), r.2)
theorem se_newL {r : List V → Hp → VK → Prop} {f : PyData → Option (List PyData)} {ta : TE} {a : DI} (hr : RCn r f) (ha : SdV cl K ta a) : SdE cl K (tCB r (tCons ta tNil)) (dNewL f a) := fun F H σ ρ S s x ρ' h Q q => by
  simp only [dNewL, Option.bind_eq_some_iff, Option.map_eq_some_iff] at h
  obtain ⟨⟨x1, ρ1⟩, h1, ds, h2, e⟩ := h
  cases e
  refine ha F H σ ρ S s _ _ h1 _ fun v F1 H1 S1 t1 s1 r1 => ?_
  exact hr F1 H1 s1.ex _ _ _ r1 h2 Q fun p vs hp hv => q _ F1 _ S1 (t1.trans (Tr.newO hp)) (s1.newO hp) (nw_ok (s1.newO hp) (none_back t1.there hp) (s1.fresh hp) (.lst (fresh_back s1.ex hp) upd_same hv))
/-- the script: a slice of it -/
def scrOf : Option Sl → Option (List Int)
  | some (.scr ns) => some ns
  | _ => none
def dScrSl (i : Nat) (lo hi : DO) : DI := fun ρ => (scrOf ρ[i]?).bind fun ns => (lo ρ).bind fun l => (hi l.2).map fun h => (.list (cutD (ns.map .int) l.1 h.1), h.2)
theorem cutV_ints (ns : List Int) (lo hi : Option Int) {F : Hp} : RpAll F (cutV (ns.map V.int) lo hi) (cutD (ns.map .int) lo hi) := cut_rp (RpAll.ofInts ns) lo hi
theorem scrOf_eq {s : Option Sl} {ns : List Int} (h : scrOf s = some ns) : s = some (.scr ns) := by
  unfold scrOf at h
  split at h
  · cases h; rfl
  · cases h
theorem sd_scrSl {i : Nat} {tl th : TO} {lo hi : DO} (hl : SdO cl K tl lo) (hh : SdO cl K th hi) : SdI cl K (tSl (rSlAny K) (tVar i) tl th) (dScrSl i lo hi) := fun F H σ ρ S s x ρ' h Q q => by
  simp only [dScrSl, Option.bind_eq_some_iff, Option.map_eq_some_iff] at h
  obtain ⟨ns, h0, ⟨x2, ρ2⟩, h2, ⟨x3, ρ3⟩, h3, e⟩ := h
  cases e
  obtain ⟨a, e1, e2⟩ := s.rs.get_scr (scrOf_eq h0)
  refine ⟨_, e1, ?_⟩
  refine hl F H σ _ S s _ _ h2 _ fun F2 H2 S2 t2 s2 => ?_
  refine hh F2 H2 σ _ S2 s2 _ _ h3 _ fun F3 H3 S3 t3 s3 => ?_
  have hq : SqL K H3 a (ns.map V.int) := ex_l s3.ex (ex_l (t2.ex.trans t3.ex) e2)
  refine .inl ⟨a, _, rfl, hq, fun p hp => ?_⟩
  exact frz_new s3.ex (cutV_ints ns x2 x3) hp fun v F4 H4 t4 r4 => q v F4 H4 S3 ((t2.trans t3).then t4) (t4.sr s3) r4
end
end DL

set_option Elab.async false
set_option linter.all false
set_option maxRecDepth 100000
set_option maxHeartbeats 1000000
/-! DLi: what the printed terms name besides -/
namespace DL
open PySem L2 Evl PySem.Spec PyProof.Rows

def fuel0 : Nat := 10 ^ 100
def LenR (a : DAr) (n : Nat) : Prop := ∀ ρ r, a ρ = some r → r.1.length = n
theorem lenR_nil : LenR dNilR 0 := fun ρ r h => by cases h; rfl
theorem lenR_cons {a : DE} {b : DAr} {n : Nat} (h : LenR b n) : LenR (dConsR a b) (n + 1) := fun ρ r e => by
  simp only [dConsR, Option.bind_eq_some_iff] at e
  obtain ⟨⟨v, ρ1⟩, h1, h2⟩ := e
  cases v with
  | im d =>
    simp only [Option.map_eq_some_iff] at h2
    obtain ⟨s, h2, rfl⟩ := h2
    simpa using h _ _ h2
  | «at» i =>
    simp only [Option.map_eq_some_iff] at h2
    obtain ⟨s, h2, rfl⟩ := h2
    simpa using h _ _ h2
  | nw o =>
    cases o with
    | lst ds =>
      simp only [Option.map_eq_some_iff] at h2
      obtain ⟨s, h2, rfl⟩ := h2
      simpa using h _ _ h2
    | dic _ => cases h2
    | dct _ => cases h2
    | ins _ _ => cases h2
section
variable {cl : Nat → Addr} {K : PySem.W.Frag} {W : WX} {pn : List Nat}
theorem se_callL {np n : Nat} {m : FS} {ta : TA} {a : DAr} {dvs : List V} {dds : List PyData} (hd : ∀ F, RpAll F dvs dds) (ha : SdAr cl K ta a) (hl : LenR a n) (hn : n + dds.length = np) : SdE cl K (tCall (toSp cl K np m) dvs E0 ta) (dCall m dds a) :=
  se_call hd ha fun ρ r h => by rw [hl ρ r h]; exact hn
/-- a target x[b] of an owned list -/
def dGSub (i : Nat) (b : DI) : DG := fun x ρ => (ownL ρ[i]?).bind fun _ => (b ρ).bind fun s => (toI s.1).bind fun k => (ownL s.2[i]?).bind fun ds => (ixN ds.length k).map fun j => s.2.set i (.ow (.lst (ds.set j x)))
theorem sg_sub {i : Nat} {tb : TE} {b : DI} (hb : SdI cl K tb b) : SdG cl K [] (gSub (tVar i) tb rSetL) (dGSub i b) := fun F H σ ρ S s v x ρ' hv he Q q => by
  simp only [dGSub, Option.bind_eq_some_iff, Option.map_eq_some_iff] at he
  obtain ⟨ds0, h0, ⟨y, ρ2⟩, h2, k, hk, ds, h3, j, hj, e0⟩ := he
  cases e0
  obtain ⟨a, vs, e1, e2, e3, _⟩ := s.lst (ownL_eq h0)
  refine ⟨_, e1, ?_⟩
  refine hb F H σ ρ S s _ _ h2 _ fun u F2 H2 S2 t2 s2 r2 => ?_
  obtain ⟨a', vs', e1', e2', e3', kk⟩ := s2.lst (ownL_eq h3)
  rw [e1] at e1'
  cases e1'
  cases y <;> simp [toI] at hk
  subst hk
  cases r2
  obtain ⟨S3, s3, t3⟩ := kk (vs'.set j v) (ds.set j x) (e3'.set j (hv.mono t2.ex))
  exact ⟨a, vs', _, j, rfl, rfl, e2', by rw [e3'.length]; exact hj, q F2 _ σ S3 (t2.trans t3) s3 (Only.refl _ _)⟩
/-- two names at once, the first one owned -/
def dParOI (i j : Nat) (a : DE) (b : DI) : DS := fun ρ => (a ρ).bind fun r => match r.1 with
  | .nw (.lst ds) => (b r.2).map fun s => (.nx, (s.2.set i (.ow (.lst ds))).set j (.im s.1))
  | _ => none
theorem SR.put_ow {F H : Hp} {σ : L2.St} {ρ : DEnv} {S fp : List Addr} {a : Addr} {o : Ob} (i : Nat) (s : SR cl K F H σ ρ S) (h : RO cl F H a o fp) (nd : (fp ++ S).Nodup) : ∃ S', SR cl K F H (σ.set i (some (.ref a))) (ρ.set i (.ow o)) S' ∧ ∀ p ∈ S', p ∈ fp ∨ p ∈ S := by
  by_cases hl : i < ρ.length
  · obtain ⟨S0, S2, a1, a2, a3⟩ := s.rs.put_ow i hl h
    refine ⟨S2, ⟨s.ex, a1, a2.nodup_iff.mpr (nd.sublist (List.Sublist.append_left a3 _))⟩, fun p hp => ?_⟩
    exact (List.mem_append.mp (a2.mem_iff.mp hp)).imp id fun z => a3.subset z
  · refine ⟨S, ?_, fun p hp => .inr hp⟩
    rw [List.set_eq_of_length_le (Nat.le_of_not_lt hl), List.set_eq_of_length_le (by rw [s.rs.length]; exact Nat.le_of_not_lt hl)]
    exact s
theorem ss_ParOI {i j : Nat} {ta tb : TE} {a : DE} {b : DI} (ha : SdE cl K ta a) (hb : SdI cl K tb b) (hi : pn.contains i = false) (hj : pn.contains j = false) : SdS cl K W pn (tPar i j (tCons ta (tCons tb tNil))) (dParOI i j a b) := fun F H σ ρ S s fl ρ' he D p => by
  simp only [dParOI, Option.bind_eq_some_iff] at he
  obtain ⟨⟨x, ρ1⟩, h1, h2⟩ := he
  refine ha F H σ ρ S s _ _ h1 _ fun v F1 H1 S1 t1 s1 r1 => ?_
  cases x with
  | im d => cases h2
  | «at» k => cases h2
  | nw o =>
    cases o with
    | dic _ => cases h2
    | dct _ => cases h2
    | ins _ _ => cases h2
    | lst ds =>
      simp only [Option.map_eq_some_iff] at h2
      obtain ⟨⟨y, ρ2⟩, h2, e⟩ := h2
      cases e
      obtain ⟨c, fp, rfl, ho, nd, hf⟩ := r1
      cases ho with
      | lst q1 q2 q3 =>
        have nS : c ∉ S1 := (List.nodup_cons.mp nd).1
        refine hb F1 H1 σ ρ1 S1 s1 _ _ h2 _ fun u F2 H2 S2 t2 s2 r2 => ?_
        have f2 : F2 c = none := t2.own c _ q2 rfl q1 nS
        have g2 : H2 c = _ := t2.keep c _ q2 nS
        have n2 : c ∉ S2 := fun hm => (t2.sub c hm).elim nS fun z => by rw [q2] at z; cases z
        obtain ⟨S3, s3, m3⟩ := s2.put_ow (o := .lst ds) i (.lst f2 g2 (q3.mono t2.ex)) (List.nodup_cons.mpr ⟨n2, s2.nd⟩)
        obtain ⟨S4, s4, t4⟩ := s3.put_im j r2
        have t3 : Tr F H S F2 H2 S3 := ⟨(t1.trans t2).ex, (t1.trans t2).keep, (t1.trans t2).there, (t1.trans t2).own, fun p hp => by
          rcases m3 p hp with hp | hp
          · cases List.mem_singleton.mp hp
            exact hf c (.head _)
          · exact (t1.trans t2).sub p hp⟩
        refine ⟨_, _, rfl, p F2 H2 _ S4 (t3.trans t4) s4 fun k hk => ?_⟩
        rw [List.getElem?_set_ne, List.getElem?_set_ne]
        · intro z
          subst z
          simp at hi
          exact hi hk
        · intro z
          subst z
          simp at hj
          exact hj hk
/-- x.index(e), flat things: the first place -/
def idxV (y : V) : List V → Nat → Option Nat
  | [], _ => none
  | z :: zs, j => if eqV z y = true then some j else idxV y zs (j + 1)
theorem idxV_ok {y : V} : ∀ {zs : List V} {k j : Nat}, idxV y zs k = some j → ∃ m z, j = k + m ∧ zs[m]? = some z ∧ eqV z y = true ∧ ∀ (n : Nat) z', n < m → zs[n]? = some z' → eqV z' y = false
  | [], k, j, h => by cases h
  | z :: zs, k, j, h => by
    unfold idxV at h
    split at h
    · next he =>
      cases h
      exact ⟨0, z, rfl, rfl, he, fun n z' hn => by omega⟩
    · next he =>
      obtain ⟨m, z', rfl, h1, h2, h3⟩ := idxV_ok h
      refine ⟨m + 1, z', by omega, by simpa using h1, h2, fun n w hn hw => ?_⟩
      cases n with
      | zero =>
        simp at hw
        subst hw
        simpa using he
      | succ n => exact h3 n w (by omega) (by simpa using hw)
def fIdx (d e : PyData) : Option PyData := (asLst d).bind fun ds => (toVs ds).bind fun vs => (toV e).bind fun y => (idxV y vs 0).map fun (j : Nat) => PyData.int (j : Int)
def dIdx (i : Nat) (e : DI) : DI := fun ρ => ((view ρ[i]?).bind asLst).bind fun _ => (e ρ).bind fun s => (view s.2[i]?).bind fun x => (fIdx x s.1).map (·, s.2)
theorem sd_idx {i : Nat} {te : TE} {e : DI} (he : SdI cl K te e) : SdI cl K (tBM K "list" (rIndex K) (tVar i) (tCons te tNil)) (dIdx i e) := fun F H σ ρ S s x ρ' h Q q => by
  simp only [dIdx, Option.bind_eq_some_iff, Option.map_eq_some_iff] at h
  obtain ⟨x0, h0, ⟨x2, ρ2⟩, h2, x1, h1, z, h3, e0⟩ := h
  cases e0
  simp only [fIdx, Option.bind_eq_some_iff, Option.map_eq_some_iff] at h3
  obtain ⟨ds, k1, vs, k2, y, k3, j, k4, rfl⟩ := h3
  cases x1 <;> simp [asLst] at k1
  subst k1
  obtain ⟨d0, h0, hl0⟩ := h0
  obtain ⟨v, hv, r0⟩ := view_vw s h0
  cases d0 <;> simp [asLst] at hl0
  obtain ⟨a0, xs0, rfl, hs0, _⟩ := r0.lst s.ex
  refine ⟨_, hv, .inl ⟨rfl, xs0, sq_of hs0⟩, ?_⟩
  refine he F H σ ρ S s _ _ h2 _ fun u F2 H2 S2 t2 s2 r2 => ?_
  obtain ⟨v', hv', r1⟩ := view_vw s2 h1
  rw [hv] at hv'
  cases hv'
  obtain ⟨p, ws, e, h4, h5⟩ := r1.lst s2.ex
  cases e
  obtain ⟨rfl, f2⟩ := toVs_ok k2 h5
  obtain ⟨rfl, f1⟩ := toV_ok k3 r2
  obtain ⟨m, z, e, g1, g2, g3⟩ := idxV_ok k4
  rw [Nat.zero_add] at e
  subst e
  exact ⟨a0, _, _, j, z, rfl, rfl, sq_of h4, f1, f2, g1, g2, g3, q _ F2 H2 S2 t2 s2 (.int _)⟩
end
section
variable {X : Cx}
theorem pe_gint {x : Str} {i : Int} {pos : Pos} (hg : Gl X x) (h : ∃ t, X.mg x = some (.int i t)) (hd : (x == ("__debug__" : Str)) = false := by decide) : PE X (.Name x pos) (tC (.int i)) := by
  obtain ⟨t, h⟩ := h
  exact pe_glob (v := .int i) hg h ⟨t, rfl⟩ hd
theorem pe_gstr {x : Str} {i : Str} {pos : Pos} (hg : Gl X x) (h : ∃ t, X.mg x = some (.str i t)) (hd : (x == ("__debug__" : Str)) = false := by decide) : PE X (.Name x pos) (tC (.str i)) := by
  obtain ⟨t, h⟩ := h
  exact pe_glob (v := .str i) hg h ⟨t, rfl⟩ hd
end
/-! defs with defaults -/
def DefAtD (K : PySem.W.Frag) (mg : Str → Option Value) (x : Str) (st : Stmt) (dvs : List V) : Prop := ∃ f fd, FunD K x x (defArgs st) (defBody st) (defScope st) dvs [] f fd ∧ mg x = some (.ref f)
section
variable {P : Program} {w : World} {K : PySem.W.Frag} {mg : Str → Option Value} {base : Heap} {k : Nat} {x : Str} {st : Stmt} {ps : List Str}
theorem fn_atD {cl : Nat → Addr} {N : List Str} {own : List Nat} {b : DS} {np : Nat} {dvs : List V} (D : DefAtD K mg x st dvs) (S : FnScope N ps (defScope st)) (hp : np = ps.length) (ho : own.all (fun i => decide (i < np)) = true) (hd : dvs ≠ []) (hl : dvs.length ≤ ps.length)
    (h1 : ∀ (T : Addr) (kV doc pm : Value) (an : Option Addr) (cdv ct : Value) (us its : List Value), us.length = ps.length → its.length = dvs.length →
      ∃ k, bindArgs (PySem.W.fnOf x x (defArgs st) (defBody st) (defScope st) (.ref T) kV doc pm an cdv ct) ⟨us, []⟩ = seqItems? (.ref T) >>= k ∧ k (some its.toArray) = pure (ps.zip (us ++ its.drop dvs.length)))
    (h2 : ∀ (T : Addr) (kV doc pm : Value) (an : Option Addr) (cdv ct : Value) (us its : List Value), us.length = ps.length - dvs.length → its.length = dvs.length →
      ∃ k, bindArgs (PySem.W.fnOf x x (defArgs st) (defBody st) (defScope st) (.ref T) kV doc pm an cdv ct) ⟨us, []⟩ = seqItems? (.ref T) >>= k ∧ k (some its.toArray) = pure (ps.zip (us ++ its.drop 0)))
    (hb : ∀ (f : Addr) (cdv : Value) (A : Around) (outer : List Env) (s : Shared) (H : Hp) (E : XK), RoomG k (A.deeper (envOfC x (defScope st) s.heap.objs.size f cdv)) →
      ∃ t, PSs (cxOf CX0 P w K mg base N x (defScope st) f cdv A outer s H E).nox (defBody st) t ∧ SdS cl K (fun _ _ _ _ => False) own t b) : FnAt P w K mg base (k + 1) x ps [] (toSp cl K np (dFn N.length own b)) ∧ FnAt P w K mg base (k + 1) x ps dvs (toSp cl K np (dFn N.length own b)) := by
  obtain ⟨f, fd, F, hm⟩ := D
  have hok : FnOkG P w K mg base CX0 (k + 1) f fd ps (toSp cl K np (dFn N.length own b)) := by
    obtain ⟨oc, od, dV, kV, doc, pm, an, cdv, ct, osl, e0, lk, hcd, _⟩ := id F.ex
    subst e0
    refine FnOkG.body lk hcd S (fun vs H Q E h => h.1.trans hp) fun A outer s H vs Q E hr h => ?_
    obtain ⟨t, h1, h2⟩ := hb f cdv A outer s H E hr
    exact ⟨t, h1.nox, fn_reads h2 ho h⟩
  obtain ⟨d1, v1, b1⟩ := F.binds1 ps.length dvs.length hd (by omega) h1
  obtain ⟨d2, v2, b2⟩ := F.binds1 (ps.length - dvs.length) 0 hd (by omega) h2
  rw [List.drop_length] at v1
  have hlook : ∃ o, K.lookup f = some o ∧ o.data = .func fd := by
    obtain ⟨oc, od, dV, kV, doc, pm, an, cdv, ct, osl, e, l, _⟩ := F.ex
    exact ⟨_, l, rfl⟩
  exact ⟨⟨f, fd, d1, hok, hm, F.kp, v1, b1, hlook⟩, ⟨f, fd, d2, hok, hm, F.kp, v2, b2, hlook⟩⟩
end
/-! the rules that name the written part, with it said -/
section
variable {K : PySem.W.Frag} {X : Cx} {pos : Pos}
theorem pg_tupK {es : List Expr} {k : Nat} {t : TGs} {n : Nat} (h : PGs X es t) (hK : X.K = K := by rfl) (hc : X.calm = true := by rfl) (hn : (assignEach es X.env).length = n := by rfl) (hst : (assignEach es X.env).findIdx? (·.1) = none := by rfl) :
    PG X (.Tuple es k pos) (gTup K n t) := hK ▸ pg_tup hc h hn hst
theorem pi_listK {tg l : Expr} {tl : TE} (hl : PE X l tl) (hK : X.K = K := by rfl) : PI X tg l (iList K tl) := hK ▸ pi_list hl
theorem pi_tupK {tg l : Expr} {tl : TE} (hl : PE X l tl) (hK : X.K = K := by rfl) : PI X tg l (iTup K tl) := hK ▸ pi_tup hl
theorem pi_enumK {e : Expr} {ta : TA} {p pos tpos : Pos} {elts : List Expr} {kk : Nat} (hg : Gl X "enumerate") (hm : X.mg "enumerate" = none) (ha : PA X [e] ta) (hK : X.K = K := by rfl) (hs : starEach [e] X.env = [(false, eval e X.env)] := by rfl) :
    PI X (.Tuple elts kk tpos) (.Call (.Name "enumerate" p) [e] [] pos) (iEnum K ta) := hK ▸ pi_enum hg hm ha hs
theorem pi_zipK {e e2 : Expr} {ta : TA} {p pos tpos : Pos} {elts : List Expr} {kk : Nat} (hg : Gl X "zip") (hm : X.mg "zip" = none) (ha : PA X [e, e2] ta) (hK : X.K = K := by rfl)
    (hs : starEach [e, e2] X.env = (false, eval e X.env) :: starEach [e2] X.env := by rfl) (hpl : (backTo pos (starEach [e2] X.env)).any (·.1) = false := by rfl) :
    PI X (.Tuple elts kk tpos) (.Call (.Name "zip" p) [e, e2] [] pos) (iZip K ta) := hK ▸ pi_zip hg hm ha hs hpl
variable {o e : Expr} {es : List Expr} {to : TE} {t : TA} {name : Str} {apos cpos : Pos} {T id : String} {r : V → List V → Hp → VK → Prop}
theorem pe_bm0K (pa : PlainAttrs T) (slot : Slot T name id) (hty : typeOf (.builtin id) = pure (.type "method_descriptor")) (hm : MtR X id r) (ho : PE X o to) (hK : X.K = K := by rfl)
    (hbase : attributeBase o name X.env (eval o X.env) = eval o X.env := by rfl) (hline : (apos.endLine == cpos.line) = true := by rfl) : PE X (.Call (.Attribute o name apos) [] [] cpos) (tBM0 K T r to) := hK ▸ pe_bm0 pa slot hty hm ho hbase hline
theorem pe_bmK (pa : PlainAttrs T) (slot : Slot T name id) (hty : typeOf (.builtin id) = pure (.type "method_descriptor")) (hm : MtR X id r) (ho : PE X o to) (ha : PA X (e :: es) t) (hK : X.K = K := by rfl)
    (hbase : attributeBase o name X.env (eval o X.env) = eval o X.env := by rfl)
    (hfew : ((backTo cpos (starEach (e :: es) X.env)).all (fun x => !x.1) && (backToKw cpos (keywordEach [] X.env)).all (fun x => x.1.isSome)
      && decide ((e :: es).length + ([] : List Keyword).length + (if ([] : List Keyword).isEmpty then 0 else 1) < 30)) = true := by rfl)
    (hline : (apos.endLine == cpos.line) = true := by rfl) (hs : starEach (e :: es) X.env = (false, eval e X.env) :: starEach es X.env := by rfl) (hplain : (backTo cpos (starEach es X.env)).any (·.1) = false := by rfl) :
    PE X (.Call (.Attribute o name apos) (e :: es) [] cpos) (tBM K T r to t) := hK ▸ pe_bm pa slot hty hm ho ha hbase hfew hline hs hplain
end
end DL
namespace DL
open PySem L2 Evl PySem.Spec PyProof.Rows
section
variable {K : PySem.W.Frag} {mg : Str → Option Value} {h : Heap} {x : Str} {st : Stmt} {f : Addr}
theorem defAt_of {oc : Value} {od an : Option Addr} {osl : Array (Option Value)} {kV doc pm cdv ct : Value} (X : K.In h) (G : h.Ns mainGlobals mg) (a : PySem.W.nsIn K mainGlobals x = some (some (.ref f)))
    (l : K.lookup f = some ⟨oc, od, .func (PySem.W.fnOf x x (defArgs st) (defBody st) (defScope st) .none kV doc pm an cdv ct), osl⟩) (c : PySem.W.codeIn K cdv x = true) (k : PySem.W.keepIn K (.ref f) = true) : DefAt K mg x st :=
  ⟨f, _, fun_mk l c k, PySem.W.mg_of X G a⟩
theorem defAtD_of {dvs : List V} {T : Addr} {its : List Value} {n : Nat} {tc : Value} {td : Option Addr} {ts : Array (Option Value)} {oc : Value} {od an : Option Addr} {osl : Array (Option Value)} {kV doc pm cdv ct : Value} (X : K.In h) (G : h.Ns mainGlobals mg) (hd : dvs ≠ []) (a : PySem.W.nsIn K mainGlobals x = some (some (.ref f)))
    (l : K.lookup f = some ⟨oc, od, .func (PySem.W.fnOf x x (defArgs st) (defBody st) (defScope st) (.ref T) kV doc pm an cdv ct), osl⟩) (c : PySem.W.codeIn K cdv x = true) (k : PySem.W.keepIn K (.ref f) = true)
    (t : K.lookup T = some ⟨tc, td, .seq its.toArray n, ts⟩) (hv : Vals dvs its) : DefAtD K mg x st dvs :=
  ⟨f, _, ⟨⟨oc, od, .ref T, kV, doc, pm, an, cdv, ct, osl, rfl, l, c, .inr ⟨hd, T, _, its, n, rfl, t, rfl, hv⟩, .inl rfl⟩, k⟩, PySem.W.mg_of X G a⟩
end
def spLaw (K : PySem.W.Frag) : Sp := fun vs H Q _ => ∃ (a : Addr) (ns : List Int), vs = [.ref a] ∧ SqL K H a (ns.map V.int) ∧ ns.length ≤ 63 ∧ ∀ H', Q (.bl true) H'
theorem law_ok {P : Program} {w : World} {K : PySem.W.Frag} {mg : Str → Option Value} {base : Heap} {cl : Nat → Addr} {k : Nat} {m : FS} (F : FnAt P w K mg base k "law" ["script"] [] (toSp cl K 1 m)) (hm : ∀ ns : List Int, ns.length ≤ 63 → ∃ as, m [.scr ns] = some (.im (.bool true), as)) :
    ∃ f fd, FnOkG P w K mg base CX0 k f fd ["script"] (spLaw K) ∧ mg "law" = some (.ref f) ∧ ∃ o, K.lookup f = some o ∧ o.data = .func fd := by
  obtain ⟨f, fd, ds, h1, h2, h3, h4, h5, h6⟩ := F
  refine ⟨f, fd, h1.imp fun vs H Q E h => ?_, h2, h6⟩
  obtain ⟨a, ns, rfl, hs, hl, q⟩ := h
  obtain ⟨as, e⟩ := hm ns hl
  refine ⟨rfl, H, [.scr ns], [], .im (.bool true), as, ⟨Ex.refl _, .scr hs .nil, List.nodup_nil⟩, e, fun v F' H' S' t s r => ?_⟩
  cases r
  exact q H'
end DL

set_option Elab.async false
set_option linter.all false
set_option maxRecDepth 100000
set_option maxHeartbeats 1000000
/-! DLj: errors: raise, calls that may raise, try -/
namespace DL
open PySem L2 Evl PySem.Spec PyProof.Rows

/-! ### Base.__init__(self, ..), Base an own class without own __init__ -/
structure BaseC (K : PySem.W.Frag) (C0 : Addr) : Prop where
  gx : PySem.W.specialIn K (.ref C0) "__getattribute__" = some (some (.builtin "type.__getattribute__"))
  rd : PySem.W.readsIn K C0 (.type "type") = true
  fi : PySem.W.findCls K (.ref C0) (.type "type") "__init__" = some (.val (.builtin "ValueError.__init__"))
section
variable {X : Cx} {o e : Expr} {es : List Expr} {to te : TE} {ta : TA} {f : Str} {p p' p1 p2 pos : Pos}
theorem pe_oinit {pl : Sem Bool} {C0 : Addr} {x : Str} (B : BaseC X.K C0) (hg : Gl X x) (hm : X.mg x = some (.ref C0)) (ha : PA X (e :: es) ta) (hdb : (x == ("__debug__" : Str)) = false := by decide)
    (hc : eval (.Call (.Attribute (.Name x p1) "__init__" p2) (e :: es) [] pos) X.env = (do
      let ov ← eval (.Name x p1) X.env
      standAt p2.atName
      let (f, first) ← holding [ov] (getMethod ov "__init__" pl)
      callWith pos f first (backTo pos (starEach (e :: es) X.env)) (backToKw pos (keywordEach [] X.env))) := by rfl)
    (he : starEach (e :: es) X.env = (false, eval e X.env) :: starEach es X.env := by rfl) (hpl : (backTo pos (starEach es X.env)).any (·.1) = false := by rfl) :
    PE X (.Call (.Attribute (.Name x p1) "__init__" p2) (e :: es) [] pos) (tVeI X.K ta) := by
  refine ⟨fun pins s σ H Q I h => ?_⟩
  refine PySem.W.methodCall_KW (ld_glob I hg hm ?_ hdb) hc
  refine PySem.W.method_cls I.kIn B.gx (PySem.W.cls_value I.kIn B.rd B.fi (by decide +kernel) ?_)
  show wpAny _ _ (callWith pos (Value.builtin "ValueError.__init__") [] (backTo pos (starEach (e :: es) X.env)) []) _ _ _
  refine PyProof.Rows.callWith_method1 (thn (ha.run pos pins _ σ H _ (I.tok _) h) fun us s1 ⟨vs, H1, I1, r1, a, C, ws, ev, hl, T, ea, q⟩ => ?_) he hpl
  subst ev
  cases r1 with
  | @cons _ u0 _ ur ra rw' =>
    obtain rfl : u0 = Value.ref a := ra
    have hlen : ur.length ≤ sizeLine := by
      rw [← Paired.length rw', sizeLine_eq]
      omega
    exact oinit_ok T I1 ea hlen fun s' J => ⟨.non, H1, J, rfl, q⟩
end

/-! ### an error's class with its __init__: Base.__init__(self, text); self.f = f -/
def spXi (K : PySem.W.Frag) (f : Str) : Sp := fun vs H Q _ => ∃ (a C : Addr) (v : V), vs = [.ref a, v] ∧ OexC K C ∧ PySem.W.findIn K (.ref C) f = some none ∧ H a = some (exo a C none) ∧
  ∀ dx, H dx = none → dx ≠ a → Q .non (upd (upd H dx (exd dx [(f, v)])) a (exo a C (some dx)))
structure XcAt (P : Program) (w : World) (K : PySem.W.Frag) (mg : Str → Option Value) (base : Heap) (x : Str) (C : Addr) (f : Str) : Prop where
  oex : OexC K C
  fld : PySem.W.findIn K (.ref C) f = some none
  mgC : mg x = some (.ref C)
  ini : ∃ fI fd, PySem.W.findIn K (.ref C) "__init__" = some (some (.ref fI)) ∧ PySem.W.typeIn K (.ref fI) = some (.type "function") ∧ FnOk P w K mg base CX0 1 fI fd [("self" : Str), f] (spXi K f) ∧ Binds K fd [("self" : Str), f] []
theorem xi_len {K : PySem.W.Frag} {f : Str} {vs : List V} {H : Hp} {Q : VK} {E : XK} (h : spXi K f vs H Q E) : vs.length = [("self" : Str), f].length := by
  obtain ⟨a, C, v, rfl, _⟩ := h
  rfl
theorem xi_reads {K : PySem.W.Frag} {f m : Str} {vs : List V} {H : Hp} {Q : VK} {E : XK} (h : spXi K f vs H Q E) :
    (tSeq (tDrop (tVeI K (tCons (tVar 0) (tCons (tC (.str m)) tNil)))) (tOst K f (tVar 0) (tVar 1))) { nx := fun _ H' => Q .non H', rt := Q } (L2.start [("self" : Str), f] vs) H := by
  obtain ⟨a, C, v, rfl, T, hf, ha, k⟩ := h
  exact ⟨_, rfl, a, C, _, rfl, (show 1 ≤ 1000 by decide), T, ha, _, rfl, _, rfl, a, C, rfl, T, hf, .inl ⟨ha, fun dx hd hne => k dx hd hne⟩⟩

/-! ### raise C(e) -/
section
variable {X : Cx} {W : WX} {x f : Str} {C : Addr} {e : Expr} {te : TE} {k : Nat} {p pos pos2 : Pos}
theorem ps_raiseX (T : XcAt X.prog X.w X.K X.mg X.base x C f) (hc : X.calm = true) (tk : Takes X W) (hr : RoomG 2 X.A) (hg : Gl X x) (he : PE X e te) (hdb : (x == ("__debug__" : Str)) = false := by decide)
    (hs : starEach (e :: []) X.env = (false, eval e X.env) :: starEach [] X.env := by rfl) (hpl : (backTo pos (starEach [] X.env)).any (·.1) = false := by rfl) :
    PS X (.Raise (some (.Call (.Name x p) [e] [] pos)) none pos2) (fun _ σ H => tMkO C (spXi X.K f) [] (tCons te tNil) σ H fun cls d H' => W cls d σ H') := by
  obtain ⟨fI, fd, h1, h2, h3, h4⟩ := T.ini
  exact ps_raise hc tk (pmk_oex T.oex h1 h2 h3 hr.rm h4 .nil pass0 hg T.mgC (pa_cons he pa_nil hs) hdb hs hpl)
end
theorem del_upd {H : Hp} {a dx : Addr} {o1 o2 o3 o4 : HO} (ha : H a = none) (hne : dx ≠ a) : upd (del (upd (upd (upd H a o1) dx o2) a o3) a) dx o4 = upd H dx o4 := by
  funext b
  by_cases hb : b = dx
  · rw [hb, upd_same, upd_same]
  · rw [upd_ne hb, upd_ne hb]
    by_cases hba : b = a
    · rw [hba, del_same, ha]
    · rw [del_ne hba, upd_ne hba, upd_ne hb, upd_ne hba]
def dRaise (c : Nat) (e : DI) : DS := fun ρ => (e ρ).map fun r => (.xc c r.1, r.2)
section
variable {cl : Nat → Addr} {K : PySem.W.Frag} {W : WX} {pn : List Nat}
theorem ss_raise {c : Nat} {f : Str} {te : TE} {e : DI} (hf : xfld c = some f) (T : OexC K (cl c)) (hn : PySem.W.findIn K (.ref (cl c)) f = some none) (he : SdI cl K te e) :
    SdS cl K W pn (fun _ σ H => tMkO (cl c) (spXi K f) [] (tCons te tNil) σ H fun cls d H' => W cls d σ H') (dRaise c e) := fun F H σ ρ S s fl ρ' h D p => by
  simp only [dRaise, Option.map_eq_some_iff] at h
  obtain ⟨⟨x, ρ1⟩, h1, e0⟩ := h
  cases e0
  refine he F H σ ρ S s _ _ h1 _ fun v F1 H1 S1 t1 s1 r1 => ?_
  refine ⟨(show 1 ≤ 1000 by decide), fun a ha => ⟨a, cl c, v, rfl, T, hn, upd_same, fun dx hd hne => ?_⟩⟩
  have hdx : H1 dx = none := by rw [upd_ne hne] at hd; exact hd
  refine ⟨rfl, dx, [(f, v)], upd_same, by rw [upd_ne hne, upd_same], hdx, ?_⟩
  rw [del_upd ha hne]
  have tn : Tn F1 H1 (upd F1 dx (.xd [(f, v)])) (upd H1 dx (.xd [(f, v)])) := Tn.new s1.ex hdx
  refine p (some dx) _ _ σ S1 (t1.then tn) (tn.sr s1) (Pin.refl _ _) ?_
  unfold XRep
  rw [hf]
  exact ⟨dx, v, rfl, upd_same, r1.mono tn.exF⟩
end

/-! ### what a run of an expression raises -/
abbrev Xn := Nat × PyData
abbrev DX := DEnv → Option (Xn × DEnv)
abbrev FSX := List Sl → Option (Xn × List Sl)
section
variable (cl : Nat → Addr) (K : PySem.W.Frag)
def SdX (W : WX) (te : TE) (x : DX) : Prop := ∀ F H σ ρ S, SR cl K F H σ ρ S → ∀ c d ρ', x ρ = some ((c, d), ρ') → (∀ od F' H' S', Tr F H S F' H' S' → SR cl K F' H' σ ρ' S' → XRep F' c d od → W (.ref (cl c)) od σ H') → ∀ Q : VK, te σ H Q
def SdXT (W : WX) (tt : TT) (x : DX) : Prop := ∀ F H σ ρ S, SR cl K F H σ ρ S → ∀ c d ρ', x ρ = some ((c, d), ρ') → (∀ od F' H' S', Tr F H S F' H' S' → SR cl K F' H' σ ρ' S' → XRep F' c d od → W (.ref (cl c)) od σ H') → ∀ Q : Bool → Hp → Prop, tt σ H Q
def SdXA (W : WX) (ta : TA) (x : DX) : Prop := ∀ F H σ ρ S, SR cl K F H σ ρ S → ∀ c d ρ', x ρ = some ((c, d), ρ') → (∀ od F' H' S', Tr F H S F' H' S' → SR cl K F' H' σ ρ' S' → XRep F' c d od → W (.ref (cl c)) od σ H') → ∀ Q : List V → Hp → Prop, ta σ H Q
end
/-- the promise of a def that may raise -/
def toSpX (cl : Nat → Addr) (K : PySem.W.Frag) (np : Nat) (m : FS) (mx : FSX) : Sp := fun vs H Q E => vs.length = np ∧ ∃ F args S, SR cl K F H (vs.map some) args S ∧
  ((∃ r args', m args = some (r, args') ∧ ∀ v F' H' S', Tr F H S F' H' S' → SR cl K F' H' (vs.map some) args' S' → RR cl F' H' S' H S v r → Q v H') ∨
   (∃ c d args', mx args = some ((c, d), args') ∧ ∀ od F' H' S', Tr F H S F' H' S' → SR cl K F' H' (vs.map some) args' S' → XRep F' c d od → E (.ref (cl c)) od H'))
def dFnX (n : Nat) (own : List Nat) (body : DS) : FSX := fun args => (body (args ++ List.replicate (n - args.length) .un)).bind fun r => match r.1 with
  | .xc c d => some ((c, d), maskO own 0 args.length r.2)
  | _ => none
/-- the statement, where its expression may raise -/
def dTryX (x : DX) (s : DS) : DS := fun ρ => match x ρ with
  | some (e, ρ') => some (.xc e.1 e.2, ρ')
  | none => s ρ
def xCall (mx : FSX) (dds : List PyData) (a : DAr) : DX := fun ρ => (a ρ).bind fun r => (takeArgs r.1 r.2).bind fun t => (mx (t.1 ++ dds.map .im)).map fun s => (s.1, putArgs r.1 s.2 t.2)
def xFst (x : DX) : DX := x
def xThen (a : DI) (x : DX) : DX := fun ρ => (a ρ).bind fun r => x r.2
section
variable {cl : Nat → Addr} {K : PySem.W.Frag} {W : WX} {pn : List Nat}
theorem fn_readsX {np : Nat} {N : List Str} {own : List Nat} {t : TS} {b : DS} {vs : List V} {H : Hp} {Q : VK} {E : XK} (hb : SdS cl K (fun cls d _ H' => E cls d H') own t b) (ho : own.all (fun i => decide (i < np)) = true) (h : toSpX cl K np (dFn N.length own b) (dFnX N.length own b) vs H Q E) :
    t { nx := fun _ H' => Q .non H', rt := Q } (L2.start N vs) H := by
  obtain ⟨hnp, F, args, S, s, h⟩ := h
  have hlen : vs.length = args.length := by
    have := s.rs.length
    rw [List.length_map] at this
    exact this
  have s0 : SR cl K F H (L2.start N vs) (args ++ List.replicate (N.length - args.length) .un) S := by
    unfold L2.start
    rw [hlen]
    exact ⟨s.ex, s.rs.appUn _, s.nd⟩
  have fin : ∀ {F' H' σ' ρ' S'}, SR cl K F' H' σ' ρ' S' → Pin own (L2.start N vs) σ' → ∃ S0, SR cl K F' H' (vs.map some) (maskO own 0 args.length ρ') S0 ∧ S0.Sublist S' := fun {F' H' σ' ρ' S'} s' p => by
    rw [← hlen]
    obtain ⟨S0, a, b⟩ := mask_ok (own := own) vs 0 s'.rs fun i hi hc => by
      rw [Nat.zero_add] at hc
      rw [p i (by simpa using hc)]
      unfold L2.start
      rw [List.getElem?_append_left (by rw [List.length_map]; exact hi), List.getElem?_map]
      rw [List.getElem?_eq_getElem hi]
      rfl
    exact ⟨S0, ⟨s'.ex, a, s'.nd.sublist b⟩, b⟩
  rcases h with ⟨r, args', hm, k⟩ | ⟨c, d, args', hm, k⟩
  · simp only [dFn, Option.bind_eq_some_iff] at hm
    obtain ⟨⟨fl, ρ'⟩, h1, h2⟩ := hm
    refine hb F H _ _ S s0 _ _ h1 _ ?_
    cases fl with
    | nx =>
      cases h2
      intro F' H' σ' S' t' s' p'
      obtain ⟨S0, a, b⟩ := fin s' p'
      exact k .non F' H' S0 (t'.less fun q hq => b.subset hq) a .non
    | rt r' =>
      cases h2
      intro v F' H' σ' S' t' s' p' rr
      obtain ⟨S0, a, b⟩ := fin s' p'
      refine k v F' H' S0 (t'.less fun q hq => b.subset hq) a ?_
      cases r with
      | im d => exact rr
      | un => exact rr
      | scr ns => exact rr
      | ow o =>
        obtain ⟨p, fp, e, ho, nd, hf⟩ := rr
        exact ⟨p, fp, e, ho, nd.sublist (List.Sublist.append_left b _), hf⟩
    | bk => cases h2
    | ct => cases h2
    | xc c d => cases h2
  · simp only [dFnX, Option.bind_eq_some_iff] at hm
    obtain ⟨⟨fl, ρ'⟩, h1, h2⟩ := hm
    refine hb F H _ _ S s0 _ _ h1 _ ?_
    cases fl with
    | xc c d =>
      cases h2
      intro od F' H' σ' S' t' s' p' xr
      obtain ⟨S0, a, b⟩ := fin s' p'
      exact k od F' H' S0 (t'.less fun q hq => b.subset hq) a xr
    | nx => cases h2
    | rt r => cases h2
    | bk => cases h2
    | ct => cases h2
/-- a call of a def that may raise, as it ends well -/
theorem call_core {np : Nat} {m : FS} {mx : FSX} {F H : Hp} {σ : L2.St} {ρ : DEnv} {S : List Addr} {vs : List V} {vals : List Val} {args : List Sl} {ρ0 : DEnv} {dvs : List V} {dds : List PyData} (hd : ∀ F, RpAll F dvs dds) (s1 : SR cl K F H σ ρ S) (ra : RA F σ vs vals) (h2 : takeArgs vals ρ = some (args, ρ0)) (hn : vals.length + dds.length = np) {Q : VK} {E : XK}
    (h : (∃ r args' val, m (args ++ dds.map .im) = some (r, args') ∧ resVal r = some val ∧ ∀ v F' H' S', Tr F H S F' H' S' → SR cl K F' H' σ (putArgs vals args' ρ0) S' → RV cl F' H' σ S' H S v val → Q v H') ∨
      (∃ c d args', mx (args ++ dds.map .im) = some ((c, d), args') ∧ ∀ od F' H' S', Tr F H S F' H' S' → SR cl K F' H' σ (putArgs vals args' ρ0) S' → XRep F' c d od → E (.ref (cl c)) od H')) : toSpX cl K np m mx (vs ++ dvs) H Q E := by
  obtain ⟨Sc, S0, rc, r0, perm⟩ := take_args s1.rs ra h2
  have nd := nodup_perm_app perm s1.nd
  have own0 : ∀ p ∈ S0, p ∉ Sc ∧ F p = none ∧ ∃ u, H p = some u ∧ isTup u = false := fun p hp => ⟨fun hc => (List.nodup_append.mp nd).2.2 p hc p hp rfl, r0.own p hp⟩
  have hin : ∀ p, p ∈ Sc → p ∈ S := fun p hp => perm.mem_iff.mpr (List.mem_append_left _ hp)
  have dis : ∀ p, p ∈ Sc ∨ H p = none → p ∉ S0 := fun p hp h0 => by
    obtain ⟨a1, a2, u, a3, _⟩ := own0 p h0
    rcases hp with hp | hp
    · exact a1 hp
    · rw [a3] at hp
      cases hp
  have back : ∀ {F2 H2 S2 args'}, Tr F H Sc F2 H2 S2 → SR cl K F2 H2 ((vs ++ dvs).map some) args' S2 → ∃ S3, SR cl K F2 H2 σ (putArgs vals args' ρ0) S3 ∧ Tr F H S F2 H2 S3 ∧ (∀ p ∈ S3, p ∈ S2 ∨ p ∈ S0) := fun {F2 H2 S2 args'} t2 s2 => by
    have r0' : RSs cl K F2 H2 σ ρ0 S0 := r0.frame t2.ex (fun p hp u hu => t2.keep p u hu (own0 p hp).1) fun p hp => by
      obtain ⟨a1, a2, u, a3, a4⟩ := own0 p hp
      exact t2.own p u a3 a4 a2 a1
    have nd2 : (S2 ++ S0).Nodup := List.nodup_append.mpr ⟨s2.nd, (List.nodup_append.mp nd).2.1, fun p hp p' hp' e => dis p (t2.sub p hp) (e ▸ hp')⟩
    have rs2 := s2.rs
    rw [List.map_append] at rs2
    obtain ⟨S3, b1, b2, b3⟩ := put_args r0' ra rs2 nd2
    exact ⟨S3, ⟨s2.ex, b1, b2⟩, ⟨t2.ex, fun p o hp hn => t2.keep p o hp fun z => hn (hin p z), t2.there, fun p o hp hi hf hn => t2.own p o hp hi hf fun z => hn (hin p z), fun p hp => by
      rcases b3 p hp with hp | hp
      · exact (t2.sub p hp).imp (hin p) id
      · exact .inl (mem_of_perm perm hp)⟩, b3⟩
  refine ⟨by rw [List.length_append, ra.length, (hd F).length]; exact hn, F, args ++ dds.map .im, Sc, ⟨s1.ex, by rw [List.map_append]; exact rc.appIm (hd F), (List.nodup_append.mp nd).1⟩, ?_⟩
  rcases h with ⟨r, args', val, h3, h4, q⟩ | ⟨c, d, args', h3, q⟩
  · refine .inl ⟨r, args', h3, fun v F2 H2 S2 t2 s2 rr => ?_⟩
    obtain ⟨S3, s3, t3, b3⟩ := back t2 s2
    refine q v F2 H2 S3 t3 s3 ?_
    cases r with
    | im d =>
      cases h4
      exact rr
    | ow o =>
      cases h4
      obtain ⟨p, fp, e, ho, ndr, hf⟩ := rr
      refine ⟨p, fp, e, ho, List.nodup_append.mpr ⟨(List.nodup_append.mp ndr).1, s3.nd, fun x hx y hy e' => ?_⟩, fun z hz => (hf z hz).imp (hin z) id⟩
      subst e'
      rcases b3 x hy with h | h
      · exact (List.nodup_append.mp ndr).2.2 x hx x h rfl
      · exact dis x (hf x hx) h
    | un => cases h4
    | scr ns => cases h4
  · refine .inr ⟨c, d, args', h3, fun od F2 H2 S2 t2 s2 xr => ?_⟩
    obtain ⟨S3, s3, t3, _⟩ := back t2 s2
    exact q od F2 H2 S3 t3 s3 xr
theorem RVback {F' H' H0 H1 F0 F1 : Hp} {σ : L2.St} {S' S0 S1 : List Addr} {v : V} {val : Val} (t : Tr F0 H0 S0 F1 H1 S1) (h : RV cl F' H' σ S' H1 S1 v val) : RV cl F' H' σ S' H0 S0 v val := by
  cases val with
  | im d => exact h
  | «at» i => exact h
  | nw o =>
    obtain ⟨p, fp, e, ho, nd, hf⟩ := h
    exact ⟨p, fp, e, ho, nd, fun q hq => (hf q hq).elim (t.sub q) fun z => .inr (none_back t.there z)⟩
theorem se_callX {np n : Nat} {m : FS} {mx : FSX} {ta : TA} {a : DAr} {dvs : List V} {dds : List PyData} {E : L2.St → XK} (hd : ∀ F, RpAll F dvs dds) (ha : SdAr cl K ta a) (hl : LenR a n) (hn : n + dds.length = np) : SdE cl K (tCallSD (toSpX cl K np m mx) dvs E ta) (dCall m dds a) := fun F H σ ρ S s x ρ' h Q q => by
  simp only [dCall, Option.bind_eq_some_iff, Option.map_eq_some_iff] at h
  obtain ⟨⟨vals, ρ1⟩, h1, ⟨args, ρ0⟩, h2, ⟨r, args'⟩, h3, val, h4, e⟩ := h
  cases e
  refine ha F H σ ρ S s _ _ h1 _ fun vs F1 H1 S1 t1 s1 ra => ?_
  exact call_core hd s1 ra h2 (by rw [hl _ _ h1]; exact hn) (.inl ⟨r, args', x, h3, h4, fun v F' H' S' t' s' rv => q v F' H' S' (t1.trans t') s' (RVback t1 rv)⟩)
/-- the same called where nothing may leave -/
theorem se_callX0 {np n : Nat} {m : FS} {mx : FSX} {ta : TA} {a : DAr} {dvs : List V} {dds : List PyData} {E : XK} (hd : ∀ F, RpAll F dvs dds) (ha : SdAr cl K ta a) (hl : LenR a n) (hn : n + dds.length = np) : SdE cl K (tCall (toSpX cl K np m mx) dvs E ta) (dCall m dds a) :=
  se_callX (E := fun _ => E) hd ha hl hn
theorem sx_call {np n : Nat} {m : FS} {mx : FSX} {ta : TA} {a : DAr} {dvs : List V} {dds : List PyData} (hd : ∀ F, RpAll F dvs dds) (ha : SdAr cl K ta a) (hl : LenR a n) (hn : n + dds.length = np) : SdX cl K W (tCallSD (toSpX cl K np m mx) dvs (WE W) ta) (xCall mx dds a) := fun F H σ ρ S s c d ρ' h p Q => by
  simp only [xCall, Option.bind_eq_some_iff, Option.map_eq_some_iff] at h
  obtain ⟨⟨vals, ρ1⟩, h1, ⟨args, ρ0⟩, h2, ⟨⟨c', d'⟩, args'⟩, h3, e⟩ := h
  cases e
  refine ha F H σ ρ S s _ _ h1 _ fun vs F1 H1 S1 t1 s1 ra => ?_
  exact call_core hd s1 ra h2 (by rw [hl _ _ h1]; exact hn) (.inr ⟨c, d, args', h3, fun od F' H' S' t' s' xr => p od F' H' S' (t1.trans t') s' xr⟩)
/-- a statement whose expression may raise -/
theorem ss_tryX {te : TE} {x : DX} {ts : TS} {b : DS} {q : Ends → L2.St → VK} (hx : SdX cl K W te x) (hs : SdS cl K W pn ts b) (e : ∀ D σ H, ts D σ H = te σ H (q D σ)) : SdS cl K W pn ts (dTryX x b) := fun F H σ ρ S s fl ρ' h D p => by
  unfold dTryX at h
  split at h
  · next c d ρ1 hx1 =>
    cases h
    rw [e]
    exact hx F H σ ρ S s _ _ _ hx1 (fun od F' H' S' t' s' xr => p od F' H' σ S' t' s' (Pin.refl _ _) xr) _
  · exact hs F H σ ρ S s _ _ h D p
theorem ss_tryXT {tt : TT} {x : DX} {ts : TS} {b : DS} {q : Ends → L2.St → Bool → Hp → Prop} (hx : SdXT cl K W tt x) (hs : SdS cl K W pn ts b) (e : ∀ D σ H, ts D σ H = tt σ H (q D σ)) : SdS cl K W pn ts (dTryX x b) := fun F H σ ρ S s fl ρ' h D p => by
  unfold dTryX at h
  split at h
  · next c d ρ1 hx1 =>
    cases h
    rw [e]
    exact hx F H σ ρ S s _ _ _ hx1 (fun od F' H' S' t' s' xr => p od F' H' σ S' t' s' (Pin.refl _ _) xr) _
  · exact hs F H σ ρ S s _ _ h D p
end
end DL

set_option Elab.async false
set_option linter.all false
set_option maxRecDepth 100000
set_option maxHeartbeats 1000000
/-! DLk: defs that may raise, try -/
namespace DL
open PySem L2 Evl PySem.Spec PyProof.Rows
/-! ### a def that may raise stands at the top and keeps its promise -/
def FnAtX (P : Program) (w : World) (K : PySem.W.Frag) (mg : Str → Option Value) (base : Heap) (k : Nat) (x : Str) (ps : List Str) (dvs : List V) (sp : Sp) : Prop :=
  ∃ f fd ds, FnOkG P w K mg base (L2.CX P w) k f fd ps sp ∧ mg x = some (.ref f) ∧ PySem.W.keepIn K (.ref f) = true ∧ Vals dvs ds ∧ Binds K fd ps ds ∧ ∃ o, K.lookup f = some o ∧ o.data = .func fd
section
variable {X : Cx} {k : Nat} {ps : List Str} {sp : Sp} {dvs : List V} {x : Str} {p pos : Pos} {e : Expr} {es : List Expr} {t : TA} {W : WX}
theorem pe_fnX (F : FnAtX X.prog X.w X.K X.mg X.base k x ps dvs sp) (tk : Takes X W) (hr : RoomG k X.A) (hg : Gl X x) (ha : PA X (e :: es) t) (hdb : (x == ("__debug__" : Str)) = false := by decide)
    (he : starEach (e :: es) X.env = (false, eval e X.env) :: starEach es X.env := by rfl) (hpl : (backTo pos (starEach es X.env)).any (·.1) = false := by rfl) : PE X (.Call (.Name x p) (e :: es) [] pos) (tCallSD sp dvs (WE W) t) := by
  obtain ⟨f, fd, ds, h1, h2, h3, h4, h5, _⟩ := F
  exact pe_callG h1 hr hg h2 h3 h5 h4 (fun σ => passAt tk σ) ha hdb he hpl
theorem pe_fnX0 (F : FnAtX X.prog X.w X.K X.mg X.base k x ps dvs sp) (hr : RoomG k X.A) (hg : Gl X x) (ha : PA X (e :: es) t) (hdb : (x == ("__debug__" : Str)) = false := by decide)
    (he : starEach (e :: es) X.env = (false, eval e X.env) :: starEach es X.env := by rfl) (hpl : (backTo pos (starEach es X.env)).any (·.1) = false := by rfl) : PE X (.Call (.Name x p) (e :: es) [] pos) (tCall sp dvs E0 t) := by
  obtain ⟨f, fd, ds, h1, h2, h3, h4, h5, _⟩ := F
  exact pe_callG (E := fun _ => E0) h1 hr hg h2 h3 h5 h4 (fun _ => passAtL) ha hdb he hpl
end
section
variable {P : Program} {w : World} {K : PySem.W.Frag} {mg : Str → Option Value} {base : Heap} {k : Nat} {x : Str} {st : Stmt} {ps : List Str} {sp : Sp}
theorem fn_atX {cl : Nat → Addr} {N : List Str} {own : List Nat} {b : DS} {np : Nat} (D : DefAt K mg x st) (S : FnScope N ps (defScope st)) (hp : np = ps.length) (ho : own.all (fun i => decide (i < np)) = true)
    (hbi : ∀ (kV doc pm : Value) (an : Option Addr) (cdv ct : Value) (us : List Value), us.length = ps.length → bindArgs (PySem.W.fnOf x x (defArgs st) (defBody st) (defScope st) .none kV doc pm an cdv ct) ⟨us, []⟩ = pure (ps.zip us))
    (hb : ∀ (f : Addr) (cdv : Value) (A : Around) (outer : List Env) (s : Shared) (H : Hp) (E : XK), RoomG k (A.deeper (PyProof.Rows.envOfC x (defScope st) s.heap.objs.size f cdv)) →
      ∃ t, PSs (cxOf (L2.CX P w) P w K mg base N x (defScope st) f cdv A outer s H E) (defBody st) t ∧ SdS cl K (fun cls d _ H' => E cls d H') own t b) : FnAtX P w K mg base (k + 1) x ps [] (toSpX cl K np (dFn N.length own b) (dFnX N.length own b)) := by
  obtain ⟨f, fd, F, hm⟩ := D
  obtain ⟨oc, od, kV, doc, pm, an, cdv, ct, osl, e0, lk, hcd⟩ := id F.ex
  subst e0
  refine ⟨f, _, [], FnOkG.body lk hcd S (fun vs H Q E h => h.1.trans hp) (fun A outer s H vs Q E hr h => ?_), hm, F.kp, .nil, F.binds hbi, DL.Fun.look F⟩
  obtain ⟨t, h1, h2⟩ := hb f cdv A outer s H E hr
  exact ⟨t, h1, fn_readsX h2 ho h⟩
theorem fn_atDX {cl : Nat → Addr} {N : List Str} {own : List Nat} {b : DS} {np : Nat} {dvs : List V} (D : DefAtD K mg x st dvs) (S : FnScope N ps (defScope st)) (hp : np = ps.length) (ho : own.all (fun i => decide (i < np)) = true) (hd : dvs ≠ []) (hl : dvs.length ≤ ps.length)
    (h1 : ∀ (T : Addr) (kV doc pm : Value) (an : Option Addr) (cdv ct : Value) (us its : List Value), us.length = ps.length → its.length = dvs.length →
      ∃ k, bindArgs (PySem.W.fnOf x x (defArgs st) (defBody st) (defScope st) (.ref T) kV doc pm an cdv ct) ⟨us, []⟩ = seqItems? (.ref T) >>= k ∧ k (some its.toArray) = pure (ps.zip (us ++ its.drop dvs.length)))
    (h2 : ∀ (T : Addr) (kV doc pm : Value) (an : Option Addr) (cdv ct : Value) (us its : List Value), us.length = ps.length - dvs.length → its.length = dvs.length →
      ∃ k, bindArgs (PySem.W.fnOf x x (defArgs st) (defBody st) (defScope st) (.ref T) kV doc pm an cdv ct) ⟨us, []⟩ = seqItems? (.ref T) >>= k ∧ k (some its.toArray) = pure (ps.zip (us ++ its.drop 0)))
    (hb : ∀ (f : Addr) (cdv : Value) (A : Around) (outer : List Env) (s : Shared) (H : Hp) (E : XK), RoomG k (A.deeper (envOfC x (defScope st) s.heap.objs.size f cdv)) →
      ∃ t, PSs (cxOf (L2.CX P w) P w K mg base N x (defScope st) f cdv A outer s H E) (defBody st) t ∧ SdS cl K (fun cls d _ H' => E cls d H') own t b) :
    FnAtX P w K mg base (k + 1) x ps [] (toSpX cl K np (dFn N.length own b) (dFnX N.length own b)) ∧ FnAtX P w K mg base (k + 1) x ps dvs (toSpX cl K np (dFn N.length own b) (dFnX N.length own b)) := by
  obtain ⟨f, fd, F, hm⟩ := D
  have hok : FnOkG P w K mg base (L2.CX P w) (k + 1) f fd ps (toSpX cl K np (dFn N.length own b) (dFnX N.length own b)) := by
    obtain ⟨oc, od, dV, kV, doc, pm, an, cdv, ct, osl, e0, lk, hcd, _⟩ := id F.ex
    subst e0
    refine FnOkG.body lk hcd S (fun vs H Q E h => h.1.trans hp) fun A outer s H vs Q E hr h => ?_
    obtain ⟨t, h1, h2⟩ := hb f cdv A outer s H E hr
    exact ⟨t, h1, fn_readsX h2 ho h⟩
  obtain ⟨d1, v1, b1⟩ := F.binds1 ps.length dvs.length hd (by omega) h1
  obtain ⟨d2, v2, b2⟩ := F.binds1 (ps.length - dvs.length) 0 hd (by omega) h2
  rw [List.drop_length] at v1
  have hlook : ∃ o, K.lookup f = some o ∧ o.data = .func fd := by
    obtain ⟨oc, od, dV, kV, doc, pm, an, cdv, ct, osl, e, l, _⟩ := F.ex
    exact ⟨_, l, rfl⟩
  exact ⟨⟨f, fd, d1, hok, hm, F.kp, v1, b1, hlook⟩, ⟨f, fd, d2, hok, hm, F.kp, v2, b2, hlook⟩⟩
end
/-! ### try -/
def noXc : Fl → Bool
  | .xc _ _ => false
  | _ => true
/-- try: b except C as slot i: su c d -/
def dTryAs (cs : List Nat) (ex : Nat → Bool) (i : Nat) (b : DS) (su : Nat → PyData → DS) : DS := fun ρ => (b ρ).bind fun r => match r.1 with
  | .xc c d => if cs.contains c = true ∧ i < r.2.length then (if ex c = true then (su c d (r.2.set i .un)).bind fun s => if noXc s.1 = true then some (s.1, s.2.set i .un) else none else some (.xc c d, r.2)) else none
  | fl => some (fl, r.2)
def dTryOnly (cs : List Nat) (ex : Nat → Bool) (b : DS) (su : Nat → PyData → DS) : DS := fun ρ => (b ρ).bind fun r => match r.1 with
  | .xc c d => if cs.contains c = true then (if ex c = true then (su c d r.2).bind fun s => if noXc s.1 = true then some (s.1, s.2) else none else some (.xc c d, r.2)) else none
  | fl => some (fl, r.2)
/-- a suite that keeps its promise -/
def SdU (cl : Nat → Addr) (K : PySem.W.Frag) (pn : List Nat) (i : Option Nat) (cs : List Nat) (ex : Nat → Bool) (ts : Addr → Value → Option Addr → TS) (su : Nat → PyData → DS) : Prop := ∀ c, c ∈ cs → ex c = true → ∀ a d od F H σ ρ S, SR cl K F H σ ρ S → (∀ j ∈ i, σ[j]? = some (some (.ref a))) → XRep F c d od →
  ∀ fl ρ', su c d ρ = some (fl, ρ') → ∀ D, Post cl K (fun _ _ _ _ => False) pn F H σ S D fl ρ' → ts a (.ref (cl c)) od D σ H
section
variable {cl : Nat → Addr} {K : PySem.W.Frag} {Wout : WX} {pn : List Nat}
theorem SR.drop {F H : Hp} {σ : L2.St} {ρ : DEnv} {S : List Addr} (s : SR cl K F H σ ρ S) (i : Nat) (ov : Option V) : ∃ S0, SR cl K F H (σ.set i ov) (ρ.set i .un) S0 ∧ S0.Sublist S := by
  obtain ⟨S0, a, b⟩ := s.rs.drop i ov
  exact ⟨S0, ⟨s.ex, a, s.nd.sublist b⟩, b⟩
theorem RR.less {F' H' H0 : Hp} {S' S'' S0 : List Addr} {v : V} {r : Sl} (b : S''.Sublist S') (h : RR cl F' H' S' H0 S0 v r) : RR cl F' H' S'' H0 S0 v r := by
  cases r with
  | ow o =>
    obtain ⟨p, fp, e, ho, nd, hf⟩ := h
    exact ⟨p, fp, e, ho, nd.sublist (List.Sublist.append_left b _), hf⟩
  | im d => exact h
  | un => exact h
  | scr ns => exact h
theorem ss_tryAs {C : Addr} {i : Nat} {cs : List Nat} {ex : Nat → Bool} {tb : WX → TS} {b : DS} {ts : Addr → Value → Option Addr → TS} {su : Nat → PyData → DS} (hb : ∀ W, SdS cl K W pn (tb W) b) (he : ∀ c, c ∈ cs → PySem.W.exmOne K (.ref (cl c)) (.ref C) = some (ex c)) (hi : pn.contains i = false)
    (hsu : SdU cl K pn (some i) cs ex ts su) : SdS cl K Wout pn (fun D σ H => tb (wAs K (.ref C) i ts Wout D) D σ H) (dTryAs cs ex i b su) := fun F H σ ρ S s fl ρ' h D p => by
  simp only [dTryAs, Option.bind_eq_some_iff] at h
  obtain ⟨⟨fl1, ρ1⟩, h1, h2⟩ := h
  refine hb _ F H σ ρ S s _ _ h1 D ?_
  cases fl1 with
  | nx => cases h2; exact p
  | bk => cases h2; exact p
  | ct => cases h2; exact p
  | rt r => cases h2; exact p
  | xc c d =>
    dsimp only at h2
    intro od F' H' σ' S' t' s' q' xr
    split at h2
    · next hc0 =>
      obtain ⟨hc, hl0⟩ := hc0
      have hc' : c ∈ cs := by simpa using hc
      refine ⟨ex c, he c hc', fun hx a ha => ?_, fun hx => ?_⟩
      · rw [if_pos hx] at h2
        simp only [Option.bind_eq_some_iff] at h2
        obtain ⟨⟨fl2, ρ2⟩, h3, h4⟩ := h2
        split at h4
        · next hn =>
          cases h4
          obtain ⟨S0, s0, b0⟩ := s'.drop i (some (.ref a))
          have pin0 : Pin pn σ' (σ'.set i (some (.ref a))) := fun j hj => List.getElem?_set_ne fun q => by
            subst q
            simp at hi
            exact hi hj
          have pin1 : ∀ τ : L2.St, Pin pn τ (τ.set i none) := fun τ j hj => List.getElem?_set_ne fun q => by
            subst q
            simp at hi
            exact hi hj
          have t0 : Tr F H S F' H' S0 := t'.less fun q hq => b0.subset hq
          refine hsu c hc' hx a d od F' H' _ _ S0 s0 (fun j hj => ?_) xr _ _ h3 _ ?_
          · cases hj
            exact List.getElem?_set_self (by rw [s'.rs.length]; exact hl0)
          · cases fl2 with
            | nx =>
              intro F2 H2 σ2 S2 t2 s2 q2
              obtain ⟨S3, s3, b3⟩ := s2.drop i none
              exact p F2 H2 _ S3 ((t0.trans t2).less fun q hq => b3.subset hq) s3 (((q'.trans pin0).trans q2).trans (pin1 _))
            | bk =>
              intro F2 H2 σ2 S2 t2 s2 q2
              obtain ⟨S3, s3, b3⟩ := s2.drop i none
              exact p F2 H2 _ S3 ((t0.trans t2).less fun q hq => b3.subset hq) s3 (((q'.trans pin0).trans q2).trans (pin1 _))
            | ct =>
              intro F2 H2 σ2 S2 t2 s2 q2
              obtain ⟨S3, s3, b3⟩ := s2.drop i none
              exact p F2 H2 _ S3 ((t0.trans t2).less fun q hq => b3.subset hq) s3 (((q'.trans pin0).trans q2).trans (pin1 _))
            | rt r =>
              intro v F2 H2 σ2 S2 t2 s2 q2 r2
              obtain ⟨S3, s3, b3⟩ := s2.drop i none
              exact p v F2 H2 _ S3 ((t0.trans t2).less fun q hq => b3.subset hq) s3 (((q'.trans pin0).trans q2).trans (pin1 _)) ((r2.back t0).less b3)
            | xc c2 d2 => cases hn
        · cases h4
      · rw [if_neg (by rw [hx]; exact Bool.false_ne_true)] at h2
        cases h2
        exact p od F' H' σ' S' t' s' q' xr
    · cases h2
theorem ss_tryOnly {C : Addr} {cs : List Nat} {ex : Nat → Bool} {tb : WX → TS} {b : DS} {ts : Addr → Value → Option Addr → TS} {su : Nat → PyData → DS} (hb : ∀ W, SdS cl K W pn (tb W) b) (he : ∀ c, c ∈ cs → PySem.W.exmOne K (.ref (cl c)) (.ref C) = some (ex c))
    (hsu : SdU cl K pn none cs ex ts su) : SdS cl K Wout pn (fun D σ H => tb (wOnly K (.ref C) ts Wout D) D σ H) (dTryOnly cs ex b su) := fun F H σ ρ S s fl ρ' h D p => by
  simp only [dTryOnly, Option.bind_eq_some_iff] at h
  obtain ⟨⟨fl1, ρ1⟩, h1, h2⟩ := h
  refine hb _ F H σ ρ S s _ _ h1 D ?_
  cases fl1 with
  | nx => cases h2; exact p
  | bk => cases h2; exact p
  | ct => cases h2; exact p
  | rt r => cases h2; exact p
  | xc c d =>
    dsimp only at h2
    intro od F' H' σ' S' t' s' q' xr
    split at h2
    · next hc =>
      have hc' : c ∈ cs := by simpa using hc
      refine ⟨ex c, he c hc', fun hx a ha => ?_, fun hx => ?_⟩
      · rw [if_pos hx] at h2
        simp only [Option.bind_eq_some_iff] at h2
        obtain ⟨⟨fl2, ρ2⟩, h3, h4⟩ := h2
        split at h4
        · next hn =>
          cases h4
          refine hsu c hc' hx a d od F' H' _ _ S' s' (fun j hj => by cases hj) xr _ _ h3 _ ?_
          have p' := p.later t' q'
          cases fl2 with
          | nx => exact p'
          | bk => exact p'
          | ct => exact p'
          | rt r => exact p'
          | xc c2 d2 => cases hn
        · cases h4
      · rw [if_neg (by rw [hx]; exact Bool.false_ne_true)] at h2
        cases h2
        exact p od F' H' σ' S' t' s' q' xr
    · cases h2
/-- a suite whose first atom is the error's field -/
def dSuF (c0 : Nat) (su : PyData → DS) : Nat → PyData → DS := fun c d ρ => if c = c0 then (if (toV d).isSome = true then su d ρ else none) else none
theorem su_first {C : Addr} {c0 i : Nat} {f : Str} {cs : List Nat} {ex : Nat → Bool} {ts : Addr → Value → Option Addr → TS} {t : V → TS} {su : PyData → DS} (hC : C = cl c0) (hf : xfld c0 = some f)
    (e : ∀ a cls od D σ H, tXf a cls od C f (tVar i) σ H (fun x H1 => t x D σ H1) → ts a cls od D σ H) (h : ∀ v d, toV d = some v → SdS cl K (fun _ _ _ _ => False) pn (t v) (su d)) : SdU cl K pn (some i) cs ex ts (dSuF c0 su) := fun c hc hx a d od F H σ ρ S s hi xr fl ρ' hs D p => by
  unfold dSuF at hs
  split at hs
  · next hcc =>
    subst hcc
    split at hs
    · next hv =>
      obtain ⟨v, hv⟩ := Option.isSome_iff_exists.mp hv
      unfold XRep at xr
      rw [hf] at xr
      obtain ⟨dx, u, rfl, hd, hu⟩ := xr
      obtain ⟨rfl, _⟩ := toV_ok hv hu
      refine e _ _ _ _ _ _ ?_
      exact ⟨_, hi i rfl, rfl, by rw [hC], dx, _, _, rfl, s.ex _ _ hd, by simp [List.lookup], h _ _ hv F H σ ρ S s _ _ hs D p⟩
    · cases hs
  · cases hs
end
end DL
namespace DL
open PySem L2 Evl PySem.Spec PyProof.Rows
section
variable {cl : Nat → Addr} {K : PySem.W.Frag} {W : WX} {pn : List Nat}
theorem ss_dropX {te : TE} {x : DX} {b : DS} (hx : SdX cl K W te x) (hs : SdS cl K W pn (tDrop te) b) : SdS cl K W pn (tDrop te) (dTryX x b) := ss_tryX hx hs fun _ _ _ => rfl
theorem ss_asgX {te : TE} {g : TG} {x : DX} {b : DS} (hx : SdX cl K W te x) (hs : SdS cl K W pn (tAsg te g) b) : SdS cl K W pn (tAsg te g) (dTryX x b) := ss_tryX hx hs fun _ _ _ => rfl
theorem ss_retX {te : TE} {x : DX} {b : DS} (hx : SdX cl K W te x) (hs : SdS cl K W pn (tRet te) b) : SdS cl K W pn (tRet te) (dTryX x b) := ss_tryX hx hs fun _ _ _ => rfl
theorem toV_rp {v : V} {d : PyData} (h : toV d = some v) (F : Hp) : Rp F v d := by
  cases d <;> simp [toV] at h <;> subst h
  · exact .non
  · exact .bl _
  · exact .int _
  · exact .str _
theorem su_first' {C : Addr} {c0 i : Nat} {f : Str} {cs : List Nat} {ex : Nat → Bool} {ts : Addr → Value → Option Addr → TS} {t : V → TS} {su : PyData → DS} (h : ∀ v d, toV d = some v → SdS cl K (fun _ _ _ _ => False) pn (t v) (su d)) (hC : C = cl c0) (hf : xfld c0 = some f)
    (e : ∀ a cls od D σ H, tXf a cls od C f (tVar i) σ H (fun x H1 => t x D σ H1) → ts a cls od D σ H) : SdU cl K pn (some i) cs ex ts (dSuF c0 su) := su_first hC hf e h
end
/-- what the top says of an error's class -/
structure XcRaw (K : PySem.W.Frag) (mg : Str → Option Value) (x : Str) (C : Addr) (f : Str) (st : Stmt) (qual : Str) : Prop where
  oex : OexC K C
  fld : PySem.W.findIn K (.ref C) f = some none
  mgC : mg x = some (.ref C)
  ini : ∃ fI fd, PySem.W.findIn K (.ref C) "__init__" = some (some (.ref fI)) ∧ PySem.W.typeIn K (.ref fI) = some (.type "function") ∧ Fun K "__init__" qual st fI fd
end DL
theorem DL.takesN {X : L2.Cx} : L2.Takes X (fun _ _ _ _ => False) := L2.takes0

set_option Elab.async false
set_option linter.all false
set_option maxRecDepth 100000
set_option maxHeartbeats 2000000
/-! DLs: sorted of tuples of ints, any number of them -/
namespace SrtO
open PySem PyProof.Rows Srt
/-- the order of tuples of ints -/
def lexI : List Int → List Int → Bool
  | [], [] => false
  | [], _ :: _ => true
  | _ :: _, [] => false
  | x :: xs, y :: ys => if x = y then lexI xs ys else decide (x < y)
theorem lexI_refl : ∀ l : List Int, lexI l l = false
  | [] => rfl
  | x :: l => by simp [lexI, lexI_refl l]
theorem lexI_asym : ∀ a b : List Int, lexI a b = true → lexI b a = false
  | [], [], h => rfl
  | [], _ :: _, _ => rfl
  | _ :: _, [], h => by cases h
  | x :: xs, y :: ys, h => by
    unfold lexI at h ⊢
    by_cases e : x = y
    · subst e
      simp at h ⊢
      exact lexI_asym xs ys h
    · have e' : ¬ y = x := fun z => e z.symm
      simp [e, e'] at h ⊢
      omega
theorem lexI_tot : ∀ a b : List Int, lexI a b = false → lexI b a = false → a = b
  | [], [], _, _ => rfl
  | [], _ :: _, h, _ => by cases h
  | _ :: _, [], _, h => by cases h
  | x :: xs, y :: ys, h, g => by
    unfold lexI at h g
    by_cases e : x = y
    · subst e
      simp at h g
      rw [lexI_tot xs ys h g]
    · have e' : ¬ y = x := fun z => e z.symm
      simp [e, e'] at h g
      omega
theorem lexI_tr : ∀ a b c : List Int, lexI b a = false → lexI c b = false → lexI c a = false
  | a, b, [], h, g => by
    cases a with
    | nil => rfl
    | cons x xs =>
      cases b with
      | nil => cases h
      | cons y ys => cases g
  | [], b, z :: zs, _, _ => rfl
  | x :: xs, [], z :: zs, h, _ => by cases h
  | x :: xs, y :: ys, z :: zs, h, g => by
    unfold lexI at h g ⊢
    by_cases e1 : y = x
    · subst e1
      by_cases e2 : z = y
      · subst e2
        simp at h g ⊢
        exact lexI_tr xs ys zs h g
      · simp [e2] at g ⊢
        exact g
    · by_cases e2 : z = y
      · subst e2
        simp [e1] at h ⊢
        exact h
      · simp [e1, e2] at h g
        have e3 : ¬ z = x := by omega
        simp [e3]
        omega
theorem swo_lexI {α : Type} (k : α → List Int) : Swo fun v u => lexI (k v) (k u) := ⟨fun x y h => lexI_asym _ _ h, fun x y z h1 h2 => lexI_tr _ _ _ h1 h2⟩
section
variable {prog : Program} {w : World} {A : Around} {E : Value → Shared → Prop} {s : Shared}
/-- a tuple of ints, not empty -/
def IsTupI (h : Heap) (v : Value) (ns : List Int) : Prop := ns ≠ [] ∧ ∃ a o us n, v = .ref a ∧ h.get? a = some o ∧ o.cls = .type "tuple" ∧ o.data = .seq us n ∧ IntsAre us.toList ns
theorem IsTupI.keeps {h h' : Heap} {v : Value} {ns : List Int} (p : IsTupI h v ns) (k : ∀ b o, h.get? b = some o → o.cls = .type "tuple" → h'.get? b = some o) : IsTupI h' v ns := by
  obtain ⟨h0, a, o, us, n, e, ho, hc, hd⟩ := p
  exact ⟨h0, a, o, us, n, e, k _ _ ho hc, hc, hd⟩
theorem kat_ints {b : Bool} {Q : Bool → Shared → Prop} : ∀ {xs ys : List Value} {ns ms : List Int} {fin : Bool} (i : Nat), IntsAre xs ns → IntsAre ys ms → (fin = decide (ns.length < ms.length)) → Q (lexI ns ms) s → PySem.W.KatLex prog w A b fin Q (xs.zip ys) i s
  | _, _, _, _, _, i, .nil, .nil, e, h => by
    refine PySem.W.kat_nil ?_
    rw [e]
    exact h
  | _, _, _, _, _, i, .nil, .cons y u h2, e, h => by
    refine PySem.W.kat_nil ?_
    rw [e]
    simpa [lexI] using h
  | _, _, _, _, _, i, .cons x t h1, .nil, e, h => by
    refine PySem.W.kat_nil ?_
    rw [e]
    exact h
  | _, _, x :: ns, y :: ms, _, i, .cons _ t h1, .cons _ u h2, e, h => by
    refine PySem.W.kat_cons (SeqAt.EqAt.int_int x t y u prog w _ _ ?_)
    refine PySem.W.kat_go (fun e1 => ?_) (fun e1 => ?_)
    · have ex : x = y := by simpa using e1
      subst ex
      refine PySem.W.kat_yes (kat_ints (i + 1) h1 h2 ?_ ?_)
      · rw [e]
        simp
      · have : lexI (x :: ns) (x :: ms) = lexI ns ms := by simp [lexI]
        rw [this] at h
        exact h
    · have ex : ¬ x = y := by simpa using e1
      refine PySem.W.kat_no (TS.oneLt_ints _ ?_)
      have : lexI (x :: ns) (y :: ms) = decide (x < y) := by simp [lexI, ex]
      rw [this] at h
      exact h
theorem IntsAre.len {us : List Value} {ns : List Int} (h : IntsAre us ns) : us.length = ns.length := IntsAre.length h
theorem tupI_cmp {vs : List Value} {k : Value → List Int} (hp : ∀ v ∈ vs, IsTupI s.heap v (k v)) : Cmp prog w A s (tuples' true) (fun p => p.1 ∈ vs) (lt2 fun v u => lexI (k v) (k u)) := by
  intro p q hm hm'
  have h1 := hp _ hm
  have h2 := hp _ hm'
  show wpAny (model prog w) A (keyLt' (tuples' true) p.1 q.1) (fun r s' => s' = s ∧ r = lexI (k p.1) (k q.1)) (fun _ _ => False) s
  obtain ⟨_, a, o, us, n, e, ho, hc, hd, i1⟩ := h1
  obtain ⟨_, a', o', us', n', e', ho', hc', hd', i2⟩ := h2
  have l1 : us.size = (k p.1).length := by rw [← Array.length_toList]; exact IntsAre.length i1
  have l2 : us'.size = (k q.1).length := by rw [← Array.length_toList]; exact IntsAre.length i2
  generalize k p.1 = kp at i1 l1 ⊢
  generalize k q.1 = kq at i2 l2 ⊢
  rw [e, e']
  refine PySem.W.kat_lt ho hd ho' hd' ?_
  exact kat_ints 0 i1 i2 (by rw [l1, l2]) ⟨rfl, rfl⟩
theorem firsts_ofI {h : Heap} : ∀ {vs : List Value}, (∀ v ∈ vs, ∃ ns, IsTupI h v ns) → ∃ fs : List Value, PySem.W.KatTups h vs fs ∧ fs.length = vs.length ∧ ∀ f ∈ fs, ∃ x t, f = Value.int x t
  | [], _ => ⟨[], PySem.W.KatTups.nil, rfl, fun _ hm => by simp at hm⟩
  | v :: vs, hp => by
    obtain ⟨fs, h1, h2, h3⟩ := firsts_ofI (vs := vs) fun v' hm => hp v' (List.mem_cons_of_mem _ hm)
    obtain ⟨ns, h0, a, o, us, n, e, ho, hc, hd, hi⟩ := hp v (List.mem_cons_self ..)
    subst e
    obtain ⟨x, t, hx⟩ : ∃ x t, us[0]? = some (Value.int x t) := by
      rw [← Array.getElem?_toList]
      generalize us.toList = l at hi
      cases hi with
      | nil => exact absurd rfl h0
      | cons x t _ => exact ⟨x, t, rfl⟩
    refine ⟨.int x t :: fs, PySem.W.KatTups.cons ho hc hd hx h1, by rw [List.length_cons, List.length_cons, h2], fun f hm => ?_⟩
    rcases List.mem_cons.mp hm with rfl | hm
    · exact ⟨x, t, rfl⟩
    · exact h3 f hm
theorem tupI_sortable {a : Addr} {vs : List Value} {k : Value → List Int} (h0 : 0 < vs.length) (hp : ∀ v ∈ vs, IsTupI s.heap v (k v)) (ha : ∀ o, s.heap.get? a = some o → o.cls ≠ .type "tuple") : SortableO prog w A s a vs fun v u => lexI (k v) (k u) := by
  intro h' keep
  have hp' : ∀ v ∈ vs, IsTupI h' v (k v) := fun v hm => (hp v hm).keeps fun b o e c => keep b o (fun z => by subst z; exact ha o e c) e
  obtain ⟨fs, h1, h2, h3⟩ := firsts_ofI fun v hm => ⟨_, hp' v hm⟩
  refine ⟨tuples' true, fun Q E hq => ?_, tupI_cmp hp'⟩
  refine PySem.W.kat_kind (T := .type "int") h1 (by omega) (fun f hm => ?_) (by rfl) ?_
  · obtain ⟨x, t, rfl⟩ := h3 f hm
    exact PySem.W.Looks.now
  · have e : (Value.type "int" != Value.type "tuple") = true := by first | decide +kernel | rfl | decide
    rw [e]
    exact hq
theorem sorted_tupI {l : Addr} {vs : List Value} {k : Value → List Int} {Q : Value → Shared → Prop} (hl : s.heap.IsList l vs.toArray) (hz : vs.length ≤ sizeLine) (hp : ∀ v ∈ vs, IsTupI s.heap v (k v))
    (h : ∀ (h' : Heap) (d : Addr) (out : List Value), Srtd (fun v u => lexI (k v) (k u)) out → Stb (fun v u => lexI (k v) (k u)) out vs → (∀ b o, s.heap.get? b = some o → h'.get? b = some o) → s.heap.objs.size ≤ d → (∃ n, h'.get? d = some (seqObj "list" out.toArray n)) → Q (.ref d) { s with heap := h' }) :
    wpAny (model prog w) A (call (.builtin "sorted") [.ref l]) Q E s := by
  refine sorted_ord (swo_lexI k) hl hz (fun h2 h₁ a ha kk => ?_) fun out hs hb => ?_
  · refine tupI_sortable (s := { s with heap := h₁ }) (by omega) (fun v hm => (hp v hm).keeps fun b o e _ => (kk b o e).2) fun o e => ?_
    have e' : some o = some (seqObj "list" vs.toArray 0) := e.symm.trans ha
    cases e'
    intro c
    exact absurd (Value.type.inj c) (by decide)
  · exact h _ _ out hs hb (fun b o e => sortedAll_old e) (Nat.le_succ _) (sortedAll_at s.heap vs out.toArray)
end
end SrtO
namespace DL
open PySem L2 Evl PySem.Spec PyProof.Rows
abbrev ltT (k : V → List Int) (x y : V) : Bool := SrtO.lexI (k x) (k y)
/-- sorted(xs), xs a list of tuples of ints (not empty), any number of them -/
def rSortedTI (K : PySem.W.Frag) : List V → Hp → VK → Prop := fun vs H Q => ∃ (a : Addr) (xs : List V) (k : V → List Int), vs = [V.ref a] ∧ SqL K H a xs ∧ (∀ x ∈ xs, k x ≠ [] ∧ ∃ t, x = V.ref t ∧ H t = some (.tup ((k x).map V.int))) ∧
  ∀ ys p, SrtO.Srtd (ltT k) ys → SrtO.Stb (ltT k) ys xs → H p = none → Q (.ref p) (upd H p (.lst ys))
section
variable {X : Cx}
theorem cr_sortedTI : CallR X (.builtin "sorted") (rSortedTI X.K) := by
  intro pins s σ H vs us Q I r h
  obtain ⟨a, xs, k, rfl, hs, hx, q⟩ := h
  obtain ⟨its, rv, hl, hz⟩ := I.list hs
  obtain ⟨u, rfl, ru⟩ := vals1 r
  obtain rfl : u = Value.ref a := ru
  obtain ⟨e1, e2⟩ := refs_back rv fun x m => by
    obtain ⟨_, t, e, _⟩ := hx x m
    exact ⟨t, e⟩
  refine SrtO.sorted_tupI (k := fun u => k (backV u)) hl.isList (by rw [← rv.length]; exact hz) (fun v hv => ?_) fun h' d out h1 h2 kp hd hn => ?_
  · obtain ⟨t, rfl⟩ := e2 v hv
    have hm : V.ref t ∈ xs := by rw [e1]; exact List.mem_map.mpr ⟨_, hv, rfl⟩
    obtain ⟨h0, t', e, ht⟩ := hx _ hm
    cases e
    obtain ⟨_, its2, r2, o, ho, hc, n, hd⟩ := I.hok _ _ ht
    exact ⟨h0, t, o, its2.toArray, n, rfl, ho, hc, hd, (by simpa using r2.ints : IntsAre its2 (k (V.ref t)))⟩
  · have h3 : ∀ u ∈ out, ∃ a, u = Value.ref a := fun u hu => e2 u (h2.perm.mem_iff.mp hu)
    obtain ⟨n, hn⟩ := hn
    have hb : SrtO.Stb (ltT k) (out.map backV) xs := by
      rw [e1]
      exact SrtO.Stb.map (SrtO.swo_lexI k) backV h2
    refine ⟨.ref d, upd H d (.lst (out.map backV)), I.laid (t' := s.toks) kp hd ⟨?_, out, n, vals_back h3, hn⟩, rfl, q _ d (SrtO.srtd_map h1) hb (I.hok.fresh hd)⟩
    rw [hb.len]
    exact hz
end
end DL

set_option Elab.async false
set_option linter.all false
set_option maxRecDepth 100000
set_option maxHeartbeats 2000000
/-! DLt: dicts with tuple keys: sorted(d), dict(pairs); sorted of lists of tuples -/
namespace DL
open PySem L2 Evl PySem.Spec PyProof.Rows
def intV : V → Option Int
  | .int i => some i
  | _ => none
theorem intV_map (ns : List Int) : (ns.map V.int).filterMap intV = ns := by
  induction ns with
  | nil => rfl
  | cons n ns ih => simp [intV, ih]
/-- the ints of the tuple at an address -/
def tupK (H : Hp) : V → List Int
  | .ref b => match H b with
    | some (.tup xs) => xs.filterMap intV
    | _ => []
  | _ => []
theorem tupK_at {H : Hp} {b : Addr} {ns : List Int} (h : H b = some (.tup (ns.map V.int))) : tupK H (.ref b) = ns := by
  unfold tupK
  simp only [h, intV_map]
/-- sorted(d), a dict whose keys are tuples of ints -/
def rSortedDT : List V → Hp → VK → Prop := fun xs H Q => ∃ (a : Addr) (kvs : List (List Key × V)) (ks : List (List Int)), xs = [.ref a] ∧ Rd H a (.dT kvs) ∧ kvs.map (·.1) = ks.map (List.map Sum.inl) ∧ (∀ k ∈ ks, k ≠ []) ∧
    ∀ (out : List (Addr × List Int)) (p : Addr), (out.map (·.2)).Perm ks → out.Pairwise (fun e f => SrtO.lexI f.2 e.2 = false) → (∀ e ∈ out, H e.1 = some (.tup (e.2.map V.int))) → H p = none → Q (.ref p) (upd H p (.lst (out.map fun e => V.ref e.1)))
theorem paired_get {α β : Type} {R : α → β → Prop} : ∀ {l : List α} {m : List β} {i : Nat} {a : α} {b : β}, Paired R l m → l[i]? = some a → m[i]? = some b → R a b
  | _, _, _, _, _, .nil, h, _ => by simp at h
  | _, _, 0, _, _, .cons r _, h, g => by simp at h g; subst h; subst g; exact r
  | _, _, i + 1, _, _, .cons _ t, h, g => paired_get (i := i) t (by simpa using h) (by simpa using g)
section
variable {X : Cx}
theorem cr_sortedDT (hcalm : X.calm = true) : CallR X (.builtin "sorted") rSortedDT := by
  intro pins s σ H xs us Q I r q
  obtain ⟨a, kvs, ks, rfl, hd, hks, hne, q⟩ := q
  obtain ⟨u, rfl, rx⟩ := vals1 r
  cases rx
  obtain ⟨z, hs, ents, pr, o, es, ep, ho, hx, hdt, he, hn⟩ := (show ObjOk X.prog X.w H s.heap a (.dT kvs) from hd.ok I.hok)
  have l1 : es.size = ents.length := size_of_entries he
  have l2 : kvs.length = ents.length := Paired.length pr
  -- the entries: key tuples, their addresses
  have hent : ∀ (j : Nat) (x : List Key × Addr × Value), ents[j]? = some x → ∃ k : List Int, ks[j]? = some k ∧ H x.2.1 = some (.tup (k.map V.int)) := fun j x hj => by
    have hb := isKeys_of pr
    unfold IsKeys at hb
    have hlt : j < kvs.length := by rw [l2]; exact (List.getElem?_eq_some_iff.mp hj).1
    have e1 : kvs[j]? = some kvs[j] := List.getElem?_eq_getElem hlt
    have e2 : (ents.map fun x => x.2.1)[j]? = some x.2.1 := by rw [List.getElem?_map, hj]; rfl
    have e3 : (kvs.map (·.1))[j]? = some kvs[j].1 := by rw [List.getElem?_map, e1]; rfl
    rw [hks, List.getElem?_map, Option.map_eq_some_iff] at e3
    obtain ⟨k, e4, e5⟩ := e3
    refine ⟨k, e4, ?_⟩
    have h6 := paired_get hb e1 e2
    rw [h6, ← e5, List.map_map]
    rfl
  refine Calls.call_function_entry kind_sorted plain_sorted entry_sorted (args_sorted1 _) ?_
  unfold Builtin.«sorted»
  refine wpAny_bind (m := checkCount "sorted" 1 1 _) (wpAny_pure (wpAny_bind (PySem.W.kdu_collect (A := X.A.in1) (kdl_raw hs hx hdt) (I.ok.hd hcalm) ho (by omega) fun h' tk acc hk it => ?_)))
  have ea : acc.toList = ents.map fun x => Value.ref x.2.1 := by
    have hl : acc.toList.length = ents.length := by rw [Array.length_toList, it.1]; exact l1
    apply List.ext_getElem?
    intro j
    rw [List.getElem?_map]
    cases hj : acc.toList[j]? with
    | none =>
      have h1 := List.getElem?_eq_none_iff.mp hj
      rw [List.getElem?_eq_none (by omega)]
      all_goals rfl
    | some v =>
      obtain ⟨en, hen, hv⟩ := it.2 j v (by rw [← Array.getElem?_toList]; exact hj)
      have qe := entry_at he j
      rw [hen] at qe
      cases hb : ents[j]? with
      | none =>
        rw [hb] at qe
        exact nomatch (show some en = none from qe)
      | some b =>
        rw [hb] at qe
        have e2 : en = entryOfKey (tupleKind (mixKind X.prog X.w)) b := Option.some.inj qe
        rw [hv, e2]
        all_goals rfl
  have hal : acc.toList.length ≤ sizeLine := by rw [ea, List.length_map, ← l2]; exact z
  have I1 : Inv X pins σ H { s with heap := h', toks := tk } := I.kept hk
  have hmem : ∀ v ∈ acc.toList, ∃ (b : Addr) (k : List Int), v = Value.ref b ∧ k ∈ ks ∧ H b = some (.tup (k.map V.int)) := fun v hv => by
    rw [ea] at hv
    obtain ⟨x, hx1, rfl⟩ := List.mem_map.mp hv
    obtain ⟨j, hj⟩ := List.mem_iff_getElem?.mp hx1
    obtain ⟨k, hk1, hk2⟩ := hent j x hj
    exact ⟨_, k, rfl, List.mem_iff_getElem?.mpr ⟨j, hk1⟩, hk2⟩
  have hkeys : acc.toList.map (fun u => tupK H (backV u)) = ks := by
    rw [ea, List.map_map]
    apply List.ext_getElem?
    intro j
    rw [List.getElem?_map]
    cases hj : ents[j]? with
    | none =>
      have h1 := List.getElem?_eq_none_iff.mp hj
      have h2 : ks.length = kvs.length := by simpa using (congrArg List.length hks).symm
      rw [List.getElem?_eq_none (by omega)]
      rfl
    | some x =>
      obtain ⟨k, hk1, hk2⟩ := hent j x hj
      rw [hk1]
      show some (tupK H (.ref x.2.1)) = some k
      rw [tupK_at hk2]
  have hT : ∀ v ∈ acc.toList, SrtO.IsTupI h' v (tupK H (backV v)) := fun v hv => by
    obtain ⟨b, k, rfl, hk1, hk2⟩ := hmem v hv
    obtain ⟨_, its2, r2, o2, ho2, hc2, n2, hd2⟩ := I1.hok _ _ hk2
    have e : tupK H (backV (Value.ref b)) = k := tupK_at hk2
    rw [e]
    exact ⟨hne k hk1, b, o2, its2.toArray, n2, rfl, ho2, hc2, hd2, by simpa using r2.ints⟩
  refine wpAny_bind (wpAny_newList ?_ hal)
  have hoL : (h'.push (seqObj "list" acc.toList.toArray 0)).get? h'.objs.size = some (seqObj "list" acc.toList.toArray 0) := Heap.get?_push_size _ rfl
  have hT2 : ∀ v ∈ acc.toList, SrtO.IsTupI (h'.push (seqObj "list" acc.toList.toArray 0)) v (tupK H (backV v)) := fun v hv => (hT v hv).keeps fun b o e _ => Heap.get?_push_of_some _ e
  refine (show wpAny _ _ _ _ _ { s with heap := h'.push (seqObj "list" acc.toList.toArray 0), toks := tk } from wpAny_bind (wpAny_holding (wpAny_call_entry slot_list_sort ⟨_, hoL, rfl⟩ entry_list_sort
    (SrtO.list_sort_ord (SrtO.swo_lexI fun u => tupK H (backV u)) (s := { s with heap := h'.push (seqObj "list" acc.toList.toArray 0), toks := tk }) hoL hal (fun h2 => SrtO.tupI_sortable (by omega) hT2 fun o e => ?_) fun out h1 h2 => ⟨_, rfl, ?_⟩) (args_list_sort _))))
  · have e' : some o = some (seqObj "list" acc.toList.toArray 0) := e.symm.trans hoL
    cases e'
    intro c
    exact absurd (Value.type.inj c) (by decide)
  · obtain ⟨e', he'⟩ := sortedHeap_at (vs := acc.toList) (out := out.toArray) hoL
    have hm2 : ∀ v ∈ out, v ∈ acc.toList := fun v hv => h2.perm.mem_iff.mp hv
    have hlen : out.length = acc.toList.length := h2.perm.length_eq
    have hout : out = (out.map fun u => (match u with | .ref b => b | _ => 0, tupK H (backV u))).map fun e => Value.ref e.1 := by
      rw [List.map_map]
      refine (List.map_id' out).symm.trans (List.map_congr_left fun v hv => ?_)
      obtain ⟨b, k, rfl, _⟩ := hmem v (hm2 v hv)
      rfl
    have hvals : Vals ((out.map fun u => (match u with | .ref b => b | _ => 0, tupK H (backV u))).map fun e => V.ref e.1) out := by
      have := vals_refs ((out.map fun u => ((match u with | .ref b => b | _ => 0 : Addr), tupK H (backV u))).map fun e => e.1)
      rw [List.map_map, List.map_map] at this
      rw [List.map_map]
      rw [List.map_map] at hout
      exact hout ▸ (by simpa [Function.comp_def] using this)
    refine wpAny_pure ⟨_, rfl, .ref h'.objs.size, upd H h'.objs.size (.lst ((out.map fun u => (match u with | .ref b => b | _ => 0, tupK H (backV u))).map fun e => V.ref e.1)), I1.laid (t' := tk) (fun b u e => ?_) (Nat.le_refl _)
      (show ObjOk X.prog X.w _ _ _ (.lst _) from ⟨by rw [List.length_map, List.length_map, hlen]; exact hal, out, e', hvals, he'⟩), rfl, q _ _ ?_ ?_ ?_ (I1.hok.fresh (Nat.le_refl _))⟩
    · have hb : b < h'.objs.size := Heap.lt_size e
      rw [sortedHeap_old (Nat.ne_of_lt hb) (by rw [size_push']; exact Nat.lt_succ_of_lt hb)]
      exact Heap.get?_push_of_some _ e
    · rw [List.map_map]
      have := h2.perm.map fun u => tupK H (backV u)
      rw [hkeys] at this
      exact this
    · exact List.pairwise_map.mpr (h1.imp fun h => h)
    · intro e hm
      obtain ⟨u, hu, rfl⟩ := List.mem_map.mp hm
      obtain ⟨b, k, rfl, _, hk2⟩ := hmem u (hm2 u hu)
      show H b = some (.tup ((tupK H (V.ref b)).map V.int))
      rw [tupK_at hk2]
      exact hk2
end
end DL

set_option Elab.async false
set_option linter.all false
set_option maxRecDepth 100000
set_option maxHeartbeats 2000000
/-! DLu: dict(pairs) with tuple keys; data-level: sorted of tuples, sorted of such a dict -/
namespace DL
open PySem L2 Evl PySem.Spec PyProof.Rows
def mergeT {α : Type} (kvs : List (List Key × V)) (more : List (List Key × α × V)) : List (List Key × V) := more.foldl (fun acc e => putK acc e.1 e.2.2) kvs
theorem kt_all {H : Hp} : ∀ (ps : List (List Key × Addr × Value)) (es : List (List Key × Addr × V)) (kvs : List (List Key × V)) (xs : List (List Key × Addr × Value)), KT H kvs xs →
    Paired (fun e p => e.1 = p.1 ∧ e.2.1 = p.2.1 ∧ H e.2.1 = some (.tup (e.1.map kV)) ∧ L2.RelV e.2.2 p.2.2) es ps → KT H (mergeT kvs es) (PySem.storedAllH xs ps)
  | _, _, _, _, h, .nil => h
  | p :: ps, e :: es, kvs, xs, h, .cons r t => by
    obtain ⟨r1, r2, r3, r4⟩ := r
    have h2 := h.put e.1 (b := e.2.1) r3 r4
    have h3 := kt_all ps es _ _ h2 t
    rw [r1, r2] at h3
    rw [← r1] at h3
    have e1 : mergeT kvs (e :: es) = mergeT (putK kvs e.1 e.2.2) es := rfl
    have e2 : PySem.storedAllH xs (p :: ps) = PySem.storedAllH (storedH xs p.1 p.2.1 p.2.2) ps := rfl
    rw [e1, e2, ← r1]
    exact h3
theorem length_mergeT {α : Type} : ∀ (more : List (List Key × α × V)) (kvs : List (List Key × V)), (mergeT kvs more).length ≤ kvs.length + more.length
  | [], kvs => Nat.le_refl _
  | p :: r, kvs => by
    have h1 := length_mergeT r (putK kvs p.1 p.2.2)
    have h2 : (putK kvs p.1 p.2.2).length ≤ kvs.length + 1 := by
      unfold putK
      split
      · simp
      · simp
    show (mergeT (putK kvs p.1 p.2.2) r).length ≤ _
    rw [List.length_cons]
    omega
/-- dict(xs), a list of pairs whose keys are tuples -/
def rDictPT (K : PySem.W.Frag) : List V → Hp → VK → Prop := fun xs H Q => ∃ (a : Addr) (ps : List Addr) (es : List (List Key × Addr × V)), xs = [.ref a] ∧ SqL K H a (ps.map V.ref) ∧ Paired (fun p e => SqT K H p [.ref e.2.1, e.2.2] ∧ H e.2.1 = some (.tup (e.1.map kV))) ps es ∧
    ∀ p, H p = none → Q (.ref p) (upd H p (.dT (mergeT [] es)))
section
variable {X : Cx}
theorem pairsT_of {pins : List (Addr × Obj)} {σ : L2.St} {H : Hp} {s : Shared} (I : Inv X pins σ H s) : ∀ {ps : List Addr} {es : List (List Key × Addr × V)}, Paired (fun p e => SqT X.K H p [.ref e.2.1, e.2.2] ∧ H e.2.1 = some (.tup (e.1.map kV))) ps es →
    ∃ prs : List (List Key × Addr × Value), Paired (fun e p => e.1 = p.1 ∧ e.2.1 = p.2.1 ∧ H e.2.1 = some (.tup (e.1.map kV)) ∧ L2.RelV e.2.2 p.2.2) es prs ∧ prs.length = ps.length ∧
      ∀ (j : Nat) (q : List Key × Addr × Value), prs[j]? = some q → ∃ (b : Addr), ps[j]? = some b ∧ IsTup s.heap b #[.ref q.2.1, q.2.2]
  | _, _, .nil => ⟨[], .nil, rfl, fun j q e => by simp at e⟩
  | _, _, .cons (a := p) (b := e) h t => by
    obtain ⟨prs, r, hl, hp⟩ := pairsT_of I t
    obtain ⟨its, rv, ht, _⟩ := I.tuple h.1
    obtain ⟨u, y, ei, ru, ry⟩ := vals2 rv
    subst ei
    obtain rfl : u = Value.ref e.2.1 := ru
    refine ⟨(e.1, e.2.1, y) :: prs, .cons ⟨rfl, rfl, h.2, ry⟩ r, by rw [List.length_cons, List.length_cons, hl], fun j q e' => ?_⟩
    cases j with
    | zero =>
      have e2 : (e.1, e.2.1, y) = q := Option.some.inj e'
      subst e2
      exact ⟨p, rfl, ht⟩
    | succ j =>
      obtain ⟨b, e1, e2⟩ := hp j q (by simpa using e')
      exact ⟨b, by simpa using e1, e2⟩
theorem call_dictPT (hcalm : X.calm = true) (hu : X.A.units + 64 < cLine) : CallR X (.type "dict") (rDictPT X.K) := by
  intro pins s σ H xs us Q I r q
  obtain ⟨a, ps, es, ex, hq, hp, q⟩ := q
  subst ex
  obtain ⟨u, eu, rx⟩ := vals1 r
  subst eu
  cases rx
  obtain ⟨its, rv, pl, hz⟩ := I.list hq
  have ei := refs_at rv
  subst ei
  rw [List.length_map] at hz
  obtain ⟨prs, rel, hl, hpr⟩ := pairsT_of I hp
  have hkey : ∀ x ∈ prs, H x.2.1 = some (.tup (x.1.map kV)) := fun x hx => by
    obtain ⟨j, hj⟩ := List.mem_iff_getElem?.mp hx
    have hlt : j < es.length := by rw [Paired.length rel]; exact (List.getElem?_eq_some_iff.mp hj).1
    have := paired_get rel (List.getElem?_eq_getElem hlt) hj
    rw [← this.1, ← this.2.1]
    exact this.2.2.1
  have P := PySem.PairArg.list (prog := X.prog) (w := X.w) a (ps.map Value.ref).toArray (fun j => ps.getD j 0) (prs.map fun x => (Value.ref x.2.1, x.2.2))
  refine PySem.call_dict_pairsH (knd := tupleKind (mixKind X.prog X.w)) (ps := prs) P (I.ok.hd hcalm) (tupleKind_room_in1 (A := X.A.in1) (by show X.A.units + 1 + 1 < cLine; omega)) ⟨pl, by simp [hl], fun j k v hj => ?_⟩ ⟨by simp, fun i key v hr => ?_⟩ (fun h' hk x hx => ?_) (by rw [List.length_map, hl]; exact hz) fun h' tk hd' k => ?_
  · rw [List.getElem?_map, Option.map_eq_some_iff] at hj
    obtain ⟨x, hx, e⟩ := hj
    cases e
    obtain ⟨b, e1, e2⟩ := hpr j x hx
    have e3 : ps.getD j 0 = b := by rw [List.getD_eq_getElem?_getD, e1]; rfl
    refine ⟨by simp [e1, List.getD_eq_getElem?_getD], .inl ?_⟩
    show s.heap.IsTuple (ps.getD j 0) _
    rw [e3]
    exact e2
  · have hr' : (prs.map fun x => (Value.ref x.2.1, x.2.2))[i]? = some (key, v) := hr
    rw [List.getElem?_map, Option.map_eq_some_iff] at hr'
    obtain ⟨x, hx, e⟩ := hr'
    cases e
    exact ⟨x.1, x.2.1, hx, rfl⟩
  · have h1 := key_of I.hok (hkey x hx)
    obtain ⟨o, its, n, e1, e2, e3, e4⟩ := h1
    exact ⟨o, its, n, hk _ o (Nat.ne_of_lt (Heap.lt_size e1)) (by simp) e1, e2, e3, e4⟩
  · have hm : (s.heap.objs.size == sysModules) = false := beq_eq_false_iff_ne.mpr (Nat.ne_of_gt I.big)
    have hlen : (mergeT [] es).length ≤ sizeLine := by
      refine Nat.le_trans (length_mergeT es []) ?_
      rw [List.length_nil, Nat.zero_add, Paired.length rel, hl]
      exact hz
    obtain ⟨o, e', ep, h1, h2, h3, h4, h5, h6⟩ := hd'
    exact ⟨.ref s.heap.objs.size, upd H s.heap.objs.size (.dT (mergeT [] es)), I.laid (t' := tk) (fun b o e => k b o (by simp) e) (Nat.le_refl _)
      (show ObjOk X.prog X.w _ _ _ (.dT (mergeT [] es)) from ⟨hlen, hm, PySem.storedAllH [] prs, (KT.keeps (kt_all prs es [] [] .nil rel) fun b ys hb => by rw [upd_ne (ne_of_none hb (I.hok.fresh (Nat.le_refl _)))]; exact hb), o, e', ep, h1, h2, h3, h4, h6⟩), rfl, q _ (I.hok.fresh (Nat.le_refl _))⟩
end
end DL

set_option Elab.async false
set_option linter.all false
set_option maxRecDepth 100000
set_option maxHeartbeats 2000000
/-! DLv: data-level rules over DLs to DLu -/
namespace DL
open PySem L2 Evl PySem.Spec PyProof.Rows
/-! sorted of tuples of ints -/
def asTupI (d : PyData) : Option (List Int) := ((asTup d).bind asInts).bind fun ns => if ns = [] then none else some ns
def asTupsI : List PyData → Option (List (List Int))
  | [] => some []
  | d :: ds => (asTupI d).bind fun p => (asTupsI ds).map (p :: ·)
def unTup (ns : List Int) : PyData := .tuple (ns.map .int)
theorem asTupI_ok {d : PyData} {ns : List Int} (h : asTupI d = some ns) : d = unTup ns ∧ ns ≠ [] := by
  simp only [asTupI, Option.bind_eq_some_iff] at h
  obtain ⟨ms, ⟨ds, h1, h2⟩, h3⟩ := h
  split at h3
  · cases h3
  · next hn =>
    cases h3
    cases d <;> simp [asTup] at h1
    subst h1
    rw [asInts_eq h2]
    exact ⟨rfl, hn⟩
theorem asTupsI_ok : ∀ {ds : List PyData} {ps : List (List Int)}, asTupsI ds = some ps → ds = ps.map unTup ∧ ∀ p ∈ ps, p ≠ []
  | [], _, h => by cases h; exact ⟨rfl, fun _ h => nomatch h⟩
  | d :: ds, _, h => by
    simp only [asTupsI, Option.bind_eq_some_iff, Option.map_eq_some_iff] at h
    obtain ⟨p, h1, ps, h2, rfl⟩ := h
    obtain ⟨rfl, a⟩ := asTupI_ok h1
    obtain ⟨rfl, b⟩ := asTupsI_ok h2
    refine ⟨rfl, fun q hq => ?_⟩
    rcases List.mem_cons.mp hq with rfl | hq
    · exact a
    · exact b q hq
theorem asTupI_un {ns : List Int} (h : ns ≠ []) : asTupI (unTup ns) = some ns := by
  simp [asTupI, unTup, asTup, asInts_map, h]
theorem asTupsI_map : ∀ {ps : List (List Int)}, (∀ p ∈ ps, p ≠ []) → asTupsI (ps.map unTup) = some ps
  | [], _ => rfl
  | p :: ps, h => by simp [asTupsI, asTupI_un (h p (.head _)), asTupsI_map fun q hq => h q (.tail _ hq)]
def tupLe (a b : List Int) : Bool := !SrtO.lexI b a
def tsort (ps : List (List Int)) : List (List Int) := ps.mergeSort tupLe
theorem tsort_perm (ps : List (List Int)) : (tsort ps).Perm ps := List.mergeSort_perm _ _
theorem tsort_up (ps : List (List Int)) : (tsort ps).Pairwise fun p q => SrtO.lexI q p = false := by
  have := List.pairwise_mergeSort (le := tupLe) (fun a b c h1 h2 => by
    simp only [tupLe, Bool.not_eq_true'] at *
    exact SrtO.lexI_tr a b c h1 h2) (fun a b => by
    simp only [tupLe, Bool.or_eq_true, Bool.not_eq_true']
    cases h : SrtO.lexI b a
    · exact .inl rfl
    · exact .inr (SrtO.lexI_asym _ _ h)) ps
  exact this.imp fun h => by simpa [tupLe] using h
theorem tup_unique {a b : List (List Int)} (p : a.Perm b) (h1 : a.Pairwise fun p q => SrtO.lexI q p = false) (h2 : b.Pairwise fun p q => SrtO.lexI q p = false) : a = b :=
  List.Perm.eq_of_pairwise (fun x y _ _ h3 h4 => SrtO.lexI_tot x y h4 h3) h1 h2 p
def fSortT (d : PyData) : Option PyData := ((asLst d).bind asTupsI).map fun ps => .list ((tsort ps).map unTup)
theorem rp_tupI {F : Hp} {v : V} {ns : List Int} (h : Rp F v (unTup ns)) : ∃ t, v = .ref t ∧ F t = some (.tup (ns.map V.int)) := by
  obtain ⟨a, xs, rfl, h1, h2⟩ := rp_tup h
  rw [RpAll.ints h2] at h1
  exact ⟨a, rfl, h1⟩
theorem rp_tupsI {F : Hp} : ∀ {vs : List V} {ps : List (List Int)}, RpAll F vs (ps.map unTup) → ps = vs.map (tupK F) ∧ ∀ x ∈ vs, ∃ t, x = .ref t ∧ F t = some (.tup ((tupK F x).map V.int))
  | _, [], .nil => ⟨rfl, fun _ h => nomatch h⟩
  | v :: vs, p :: ps, .cons a b => by
    obtain ⟨h1, h2⟩ := rp_tupsI b
    obtain ⟨t, rfl, h3⟩ := rp_tupI a
    have e : tupK F (.ref t) = p := tupK_at h3
    refine ⟨by rw [List.map_cons, e, ← h1], fun x hx => ?_⟩
    rcases List.mem_cons.mp hx with rfl | hx
    · exact ⟨t, rfl, by rw [e]; exact h3⟩
    · exact h2 x hx
theorem tupsI_rp {F : Hp} : ∀ {vs : List V}, (∀ x ∈ vs, ∃ t, x = .ref t ∧ F t = some (.tup ((tupK F x).map V.int))) → RpAll F vs ((vs.map (tupK F)).map unTup)
  | [], _ => .nil
  | v :: vs, h => by
    obtain ⟨t, rfl, h1⟩ := h v (.head _)
    exact .cons (.tup h1 (RpAll.ofInts _)) (tupsI_rp fun x hx => h x (.tail _ hx))
section
variable {cl : Nat → Addr} {K : PySem.W.Frag} {W : WX} {pn : List Nat}
theorem rc_sortT : RC1 (rSortedTI K) fSortT := fun F H e x dx dz hx hf Q q => by
  simp only [fSortT, Option.map_eq_some_iff, Option.bind_eq_some_iff] at hf
  obtain ⟨ps, ⟨ds, h1, h2⟩, rfl⟩ := hf
  cases dx <;> simp [asLst] at h1
  subst h1
  obtain ⟨p, vs, rfl, h3, h4⟩ := hx.lst e
  obtain ⟨rfl, hne⟩ := asTupsI_ok h2
  obtain ⟨h5, h6⟩ := rp_tupsI h4
  refine ⟨p, vs, tupK F, rfl, sq_of h3, fun x hx => ?_, fun ys p' hs hb hn => ?_⟩
  · obtain ⟨t, rfl, h⟩ := h6 x hx
    refine ⟨hne _ ?_, t, rfl, e _ _ h⟩
    rw [h5]
    exact List.mem_map.mpr ⟨_, hx, rfl⟩
  · have hy : ∀ x ∈ ys, ∃ t, x = .ref t ∧ F t = some (.tup ((tupK F x).map V.int)) := fun x hx => h6 x (hb.perm.mem_iff.mp hx)
    have hu : (ys.map (tupK F)).Pairwise fun p q => SrtO.lexI q p = false := List.pairwise_map.mpr (hs.imp fun {x y} h => h)
    have hp : (ys.map (tupK F)).Perm (tsort ps) := by
      rw [h5]
      exact (hb.perm.map _).trans (tsort_perm _).symm
    have hq := tup_unique hp hu (tsort_up ps)
    have r := tupsI_rp hy
    rw [hq] at r
    exact frz_new e r hn q
/-- many tuples are frozen -/
theorem Tn.tups {F H : Hp} (e : Ex F H) : ∀ (l : List (Addr × List Int)), (∀ x ∈ l, H x.1 = some (.tup (x.2.map V.int))) → ∃ F', Tn F H F' H ∧ ∀ x ∈ l, F' x.1 = some (.tup (x.2.map V.int))
  | [], _ => ⟨F, Tn.refl e, fun _ h => nomatch h⟩
  | x :: l, h => by
    obtain ⟨F1, t1, h1⟩ := Tn.tup (cl := fun _ => 0) e (h x (.head _))
    obtain ⟨F2, t2, h2⟩ := Tn.tups t1.exx l fun y hy => h y (.tail _ hy)
    refine ⟨F2, t1.trans t2, fun y hy => ?_⟩
    rcases List.mem_cons.mp hy with rfl | hy
    · exact t2.exF _ _ h1
    · exact h2 y hy
def keyInts : List Key → Option (List Int)
  | [] => some []
  | .inl i :: r => (keyInts r).map (i :: ·)
  | .inr _ :: _ => none
theorem keyInts_ok : ∀ {k : List Key} {ns : List Int}, keyInts k = some ns → k = ns.map Sum.inl
  | [], _, h => by cases h; rfl
  | .inl i :: r, _, h => by
    simp only [keyInts, Option.map_eq_some_iff] at h
    obtain ⟨ns, h, rfl⟩ := h
    rw [keyInts_ok h]
    rfl
  | .inr _ :: _, _, h => by cases h
theorem keyInts_map (ns : List Int) : keyInts (ns.map Sum.inl) = some ns := by
  induction ns with
  | nil => rfl
  | cons n ns ih => simp [keyInts, ih]
def tupKeys {α : Type} : List (List Key × α) → Option (List (List Int))
  | [] => some []
  | (k, _) :: r => (keyInts k).bind fun ns => if ns = [] then none else (tupKeys r).map (ns :: ·)
theorem tupKeys_ok {α : Type} : ∀ {kvs : List (List Key × α)} {ks : List (List Int)}, tupKeys kvs = some ks → kvs.map (·.1) = ks.map (List.map Sum.inl) ∧ ∀ k ∈ ks, k ≠ []
  | [], _, h => by cases h; exact ⟨rfl, fun _ h => nomatch h⟩
  | (k, _) :: r, _, h => by
    simp only [tupKeys, Option.bind_eq_some_iff] at h
    obtain ⟨ns, h1, h2⟩ := h
    split at h2
    · cases h2
    · next hn =>
      simp only [Option.map_eq_some_iff] at h2
      obtain ⟨ks, h2, rfl⟩ := h2
      obtain ⟨a, b⟩ := tupKeys_ok h2
      refine ⟨by rw [List.map_cons, List.map_cons, a, keyInts_ok h1], fun k hk => ?_⟩
      rcases List.mem_cons.mp hk with rfl | hk
      · exact hn
      · exact b k hk
/-- sorted of an owned dict with tuple keys -/
def dSortDT (i : Nat) : DI := fun ρ => (ownT ρ[i]?).bind fun kvs => (tupKeys kvs).map fun ks => (.list ((tsort ks).map unTup), ρ)
theorem sd_sortDT (i : Nat) : SdI cl K (tCB rSortedDT (tCons (tVar i) tNil)) (dSortDT i) := fun F H σ ρ S s x ρ' h Q q => by
  simp only [dSortDT, Option.bind_eq_some_iff, Option.map_eq_some_iff] at h
  obtain ⟨kvs, h0, ks, h1, e⟩ := h
  cases e
  obtain ⟨a, vs, e1, e2, e3, _⟩ := s.dct (ownT_eq h0)
  obtain ⟨hk, hne⟩ := tupKeys_ok h1
  refine ⟨_, e1, a, vs, ks, rfl, .inl e2, (KvAll.keys e3).trans hk, hne, fun out p hp up hat hn => ?_⟩
  have hu := tup_unique (hp.trans (tsort_perm ks).symm) (List.pairwise_map.mpr up) (tsort_up ks)
  obtain ⟨F1, t1, h1⟩ := Tn.tups s.ex out hat
  have r1 : RpAll F1 (out.map fun e => V.ref e.1) ((tsort ks).map unTup) := by
    rw [← hu, List.map_map]
    have : ∀ l : List (Addr × List Int), (∀ x ∈ l, F1 x.1 = some (.tup (x.2.map V.int))) → RpAll F1 (l.map fun e => V.ref e.1) (l.map (unTup ∘ fun x => x.2)) := by
      intro l
      induction l with
      | nil => exact fun _ => .nil
      | cons x l ih => exact fun h => .cons (.tup (h x (.head _)) (RpAll.ofInts _)) (ih fun y hy => h y (.tail _ hy))
    exact this out h1
  have n := Tn.new (o := .lst (out.map fun e => V.ref e.1)) t1.exx hn
  exact q _ _ _ _ (t1.trans n).tr (n.sr (t1.sr s)) (.lst upd_same (r1.mono n.exF))
/-! dict(pairs), tuple keys -/
def pairT (d : PyData) : Option (List Key × PyData) := ((asTup d).bind two).bind fun p => (keyT p.1).map fun k => (k, p.2)
def pairsT : List PyData → Option (List (List Key × PyData))
  | [] => some []
  | d :: ds => (pairT d).bind fun p => (pairsT ds).map (p :: ·)
def mergeD (kvs : List (List Key × PyData)) (more : List (List Key × PyData)) : List (List Key × PyData) := more.foldl (fun acc e => putD acc e.1 e.2) kvs
def dDictPT (a : DI) : DE := fun ρ => (a ρ).bind fun r => ((asLst r.1).bind pairsT).map fun es => (.nw (.dct (mergeD [] es)), r.2)
theorem pairsT_rp {F : Hp} : ∀ {vs : List V} {ds : List PyData} {es : List (List Key × PyData)}, pairsT ds = some es → RpAll F vs ds →
    ∃ (ps : List Addr) (fs : List (List Key × Addr × V)), vs = ps.map V.ref ∧ Paired (fun p e => F p = some (.tup [.ref e.2.1, e.2.2]) ∧ F e.2.1 = some (.tup (e.1.map kV))) ps fs ∧ Paired (fun (f : List Key × Addr × V) (e : List Key × PyData) => f.1 = e.1 ∧ Rp F f.2.2 e.2) fs es
  | _, [], _, h, .nil => by cases h; exact ⟨[], [], rfl, .nil, .nil⟩
  | v :: vs, d :: ds, _, h, .cons a b => by
    simp only [pairsT, pairT, Option.bind_eq_some_iff, Option.map_eq_some_iff] at h
    obtain ⟨p, ⟨⟨k0, v0⟩, ⟨xs, h1, h2⟩, k, h3, rfl⟩, es, h4, rfl⟩ := h
    obtain ⟨ps, fs, rfl, r1, r2⟩ := pairsT_rp h4 b
    cases d <;> simp [asTup] at h1
    subst h1
    rename_i zs
    match zs, h2, a with
    | [y1, y2], h2, a =>
      cases h2
      obtain ⟨t, us, rfl, q1, q2⟩ := rp_tup a
      cases q2 with
      | @cons u1 _ _ _ c1 c2 =>
        cases c2 with
        | @cons u2 _ _ _ c3 c4 =>
          cases c4
          obtain ⟨kb, rfl, hkb⟩ := keyT_ok h3 c1
          exact ⟨t :: ps, (k, kb, u2) :: fs, rfl, .cons ⟨q1, hkb⟩ r1, .cons ⟨rfl, c3⟩ r2⟩
theorem kv_merge {F : Hp} : ∀ {fs : List (List Key × Addr × V)} {es : List (List Key × PyData)} {a : List (List Key × V)} {b : List (List Key × PyData)}, Paired (fun (f : List Key × Addr × V) (e : List Key × PyData) => f.1 = e.1 ∧ Rp F f.2.2 e.2) fs es → KvAll F a b → KvAll F (mergeT a fs) (mergeD b es)
  | _, _, _, _, .nil, h => h
  | f :: fs, e :: es, a, b, .cons r t, h => by
    have h2 := h.put (k := f.1) r.2
    have := kv_merge t h2
    show KvAll F (mergeT (putK a f.1 f.2.2) fs) (mergeD (putD b e.1 e.2) es)
    rw [← r.1]
    exact this
theorem se_dictPT {te : TE} {a : DI} (ha : SdI cl K te a) : SdE cl K (tCB (rDictPT K) (tCons te tNil)) (dDictPT a) := fun F H σ ρ S s x ρ' h Q q => by
  simp only [dDictPT, Option.bind_eq_some_iff, Option.map_eq_some_iff] at h
  obtain ⟨⟨x1, ρ1⟩, h1, es, ⟨ds, h2, h3⟩, e⟩ := h
  cases e
  refine ha F H σ ρ S s _ _ h1 _ fun v F1 H1 S1 t1 s1 r1 => ?_
  cases x1 <;> simp [asLst] at h2
  subst h2
  obtain ⟨b, us, rfl, q1, q2⟩ := rp_lst r1
  obtain ⟨ps, fs, rfl, g1, g2⟩ := pairsT_rp h3 q2
  refine ⟨b, ps, fs, rfl, sq_of (s1.ex _ _ q1), Paired.mapP g1 fun _ _ z => ⟨st_of (s1.ex _ _ z.1), s1.ex _ _ z.2⟩, fun p hp => ?_⟩
  exact q _ F1 _ S1 (t1.trans (Tr.newO hp)) (s1.newO hp) (nw_ok (s1.newO hp) (none_back t1.there hp) (s1.fresh hp) (.dct (fresh_back s1.ex hp) upd_same (kv_merge g2 .nil)))
end
end DL

set_option Elab.async false
set_option linter.all false
set_option maxRecDepth 100000
set_option maxHeartbeats 2000000
/-! DLw: tuple(x), range with step -1, more -/
namespace DL
open PySem L2 Evl PySem.Spec PyProof.Rows
def rTupOf (K : PySem.W.Frag) : List V → Hp → VK → Prop := fun xs H Q => ∃ p ys, xs = [.ref p] ∧ ((SqL K H p ys ∧ ∀ l, H l = none → Q (.ref l) (upd H l (.tup ys))) ∨ (SqT K H p ys ∧ Q (.ref p) H))
theorem call_tuple_any {X : Cx} : CallR X (.type "tuple") (rTupOf X.K) := call_tuple_of
def fTupleOf (d : PyData) : Option PyData := (seqOf d).map .tuple
section
variable {cl : Nat → Addr} {K : PySem.W.Frag} {W : WX} {pn : List Nat}
theorem rc_tupleOf : RC1 (rTupOf K) fTupleOf := fun F H e x dx dz hx hf Q q => by
  simp only [fTupleOf, Option.map_eq_some_iff] at hf
  obtain ⟨ds, h1, rfl⟩ := hf
  cases dx <;> simp [seqOf] at h1
  · subst h1
    obtain ⟨p, vs, rfl, h3, h4⟩ := hx.lst e
    exact ⟨p, vs, rfl, .inl ⟨sq_of h3, fun l hl => frz_newT e h4 hl q⟩⟩
  · subst h1
    have hx' := vw_tup hx
    obtain ⟨p, vs, rfl, h3, h4⟩ := rp_tup hx'
    exact ⟨p, vs, rfl, .inr ⟨st_of (e _ _ h3), q _ F H (Tn.refl e) hx'⟩⟩
def rngD (i : Int) (n : Nat) : List PyData := (List.range n).map fun (k : Nat) => .int (i - k)
def dRng3 (a b c : DI) : DL_ := fun ρ => (a ρ).bind fun r => (b r.2).bind fun s => (c s.2).bind fun t => (toI r.1).bind fun i => (toI s.1).bind fun j => (toI t.1).bind fun k =>
  if k = -1 ∧ (-(2 ^ 62) ≤ i ∧ i < 2 ^ 62 ∧ -(2 ^ 62) ≤ j ∧ j < 2 ^ 62) then some (rngD i (i - j).toNat, t.2) else none
theorem rngD_get {lo : Int} {n i : Nat} {d : PyData} (h : (rngD lo n)[i]? = some d) : i < n ∧ d = .int (lo - i) := by
  unfold rngD at h
  rw [List.getElem?_map, Option.map_eq_some_iff] at h
  obtain ⟨k, h1, h2⟩ := h
  obtain ⟨h3, h4⟩ := List.getElem?_eq_some_iff.mp h1
  rw [List.getElem_range] at h4
  rw [List.length_range] at h3
  subst h4
  exact ⟨h3, h2.symm⟩
theorem it_rngD {lo : Int} {n : Nat} {F : Hp} : ItOk (Itc lo (-1) n) F (rngD lo n) := fun F' H' e1 e2 => ⟨fun i d hd => by
  obtain ⟨h1, rfl⟩ := rngD_get hd
  refine ⟨h1, ?_⟩
  rintro y H'' ⟨rfl, rfl⟩
  refine ⟨F', Tn.refl e2, ?_⟩
  have : lo + (i : Int) * (-1) = lo - i := by omega
  rw [this]
  exact .int _, by show n ≤ (rngD lo n).length; simp [rngD]⟩
theorem sl_rng3 {ta tb tc : TE} {a b c : DI} (ha : SdI cl K ta a) (hb : SdI cl K tb b) (hc : SdI cl K tc c) : SdL cl K (iRng3 (tCons ta (tCons tb (tCons tc tNil)))) (dRng3 a b c) := fun F H σ ρ S s x ρ' he R q => by
  simp only [dRng3, Option.bind_eq_some_iff] at he
  obtain ⟨⟨x1, ρ1⟩, h1, ⟨x2, ρ2⟩, h2, ⟨x3, ρ3⟩, h3, i, hi, j, hj, k, hk, h4⟩ := he
  split at h4
  · next hb0 =>
    obtain ⟨rfl, b1, b2, b3, b4⟩ := hb0
    cases h4
    refine ha F H σ ρ S s _ _ h1 _ fun v F1 H1 S1 t1 s1 r1 => ?_
    refine hb F1 H1 σ _ S1 s1 _ _ h2 _ fun u F2 H2 S2 t2 s2 r2 => ?_
    refine hc F2 H2 σ _ S2 s2 _ _ h3 _ fun w F3 H3 S3 t3 s3 r3 => ?_
    cases x1 <;> simp [toI] at hi
    subst hi
    cases r1
    cases x2 <;> simp [toI] at hj
    subst hj
    cases r2
    cases x3 <;> simp [toI] at hk
    subst hk
    cases r3
    exact ⟨_, _, -1, _, rfl, RgC.neg b1 b2 b3 b4, q _ F3 H3 S3 ((t1.trans t2).trans t3) s3 it_rngD⟩
  · cases h4
end
end DL

set_option Elab.async false
set_option linter.all false
set_option maxRecDepth 100000
set_option maxHeartbeats 2000000
/-! DLx: the top's facts of errors' classes -/
namespace DL
open PySem L2 Evl PySem.Spec PyProof.Rows PySem.HandSPX PySem.Calls
section
variable {K : PySem.W.Frag} {mg : Str → Option Value} {h : Heap} {x f qual : Str} {C C0 fI : Addr} {st : Stmt}
theorem xcRaw_of {nm q : Str} {N : Addr} {bs : List Value} {sn : List Str} {sub : List Value} {ab : Bool} {col : Option Bool} {dd : Option Addr} {m0 m1 m2 m3 m5 : Option Value} {oc : Value} {od an : Option Addr} {osl : Array (Option Value)} {kV doc pm cdv ct : Value}
    (X : K.In h) (G : h.Ns mainGlobals mg) (a : PySem.W.nsIn K mainGlobals x = some (some (.ref C)))
    (xL : K.lookup C = some (excClassObj nm q C N bs [.ref C0, .type "ValueError", .type "Exception", .type "BaseException", .type "object"] true sn sub ab col dd m0 m1 m2 m3 m5 "ValueError.__new__"))
    (sa : PySem.W.findIn K (.ref C) "__setattr__" = some (some (.builtin "object.__setattr__"))) (ec : PySem.W.subIn K (.ref C) (.type "BaseException") = some true) (tc : PySem.W.typeIn K (.ref C) = some (.type "type")) (kc : PySem.W.keepIn K (.ref C) = true)
    (nf : PySem.W.findIn K (.ref C) f = some none) (ai : PySem.W.findIn K (.ref C) "__init__" = some (some (.ref fI))) (ti : PySem.W.typeIn K (.ref fI) = some (.type "function"))
    (li : K.lookup fI = some ⟨oc, od, .func (PySem.W.fnOf "__init__" qual (defArgs st) (defBody st) (defScope st) .none kV doc pm an cdv ct), osl⟩) (ci : PySem.W.codeIn K cdv qual = true) (ki : PySem.W.keepIn K (.ref fI) = true) : XcRaw K mg x C f st qual :=
  ⟨⟨⟨nm, q, N, bs, _, sn, sub, ab, col, dd, m0, m1, m2, m3, m5, xL, rfl⟩, sa, ec, tc, kc⟩, nf, PySem.W.mg_of X G a, fI, _, ai, ti, fun_mk li ci ki⟩
theorem em_one (ec : PySem.W.subIn K (.ref C) (.type "BaseException") = some true) (hd : PySem.W.hasDictIn K C = true) (tc : PySem.W.typeIn K (.ref C) = some (.type "type")) (sc : PySem.W.subIn K (.ref C) (.ref C) = some true) : PySem.W.exmOne K (.ref C) (.ref C) = some true := PySem.W.exm_ref ec hd tc sc
theorem em_of {cl : Nat → Addr} {c0 : Nat} (h : PySem.W.exmOne K (.ref (cl c0)) (.ref (cl c0)) = some true) : ∀ c, c ∈ [c0] → PySem.W.exmOne K (.ref (cl c)) (.ref (cl c0)) = some ((fun c => decide (c = c0)) c) := fun c hc => by
  have e : c = c0 := by simpa using hc
  subst e
  simpa using h
end
end DL

set_option Elab.async false
set_option linter.all false
set_option maxRecDepth 100000
set_option maxHeartbeats 2000000
/-! DLr: repr of any plain thing -/
namespace DL
open PySem L2 Evl PySem.Spec PyProof.Rows
/-- what repr may be asked of -/
def shownOk (d : PyData) : Bool := d.showable && decide (d.depth ≤ 60) && !d.hasDict && decide (d.shown.length ≤ sizeLine)
theorem shownOk_iff {d : PyData} : shownOk d = true ↔ d.showable = true ∧ d.depth ≤ 60 ∧ d.hasDict = false ∧ d.shown.length ≤ sizeLine := by
  simp [shownOk, and_assoc]
def rRepr (K : PySem.W.Frag) : List V → Hp → VK → Prop := fun xs H Q => ∃ v d, xs = [v] ∧ Dp K H v d ∧ shownOk d = true ∧ Q (.str d.shown) H
section
variable {X : Cx}
theorem cr_repr (hg : X.A.guards = some []) (hu : X.A.units + 64 < cLine) : CallR X (.builtin "repr") (rRepr X.K) := by
  intro pins s σ H xs us Q I r h
  obtain ⟨v, d, rfl, hd, hs, q⟩ := h
  obtain ⟨u, rfl, rx⟩ := vals1 r
  obtain ⟨as, rd⟩ := Dp.reads I d v u hd rx
  obtain ⟨s1, s2, s3, s4⟩ := shownOk_iff.mp hs
  have fin : ∀ a, u = .ref a → wpAny (model X.prog X.w) X.A (call (.builtin "repr") [u]) (L2.EP X pins σ Q) X.xe s := fun a e => by
    subst e
    exact PySem.repr_of_reads' rd s1 (PyData.noDict_hsm s3) hg (by omega) (fun _ _ e => e) (fun h' tk u k => ⟨.str d.shown, H, I.kept k, ⟨tk, rfl⟩, q⟩) s4
  cases hd with
  | non =>
    cases rx
    rw [PyData.shown.eq_1] at q
    exact PySem.P.repr_of_none ⟨.str _, H, I.tok _, ⟨_, rfl⟩, q⟩
  | bl b =>
    cases rx
    rw [PyData.shown.eq_2] at q
    refine PySem.P.repr_of_bool ⟨.str _, H, I.tok _, ⟨_, rfl⟩, ?_⟩
    exact q
  | int i =>
    obtain ⟨t, rfl⟩ := rx
    rw [PyData.shown.eq_3] at q
    rw [PyData.showable.eq_4] at s1
    exact PySem.P.repr_of_int (of_decide_eq_true s1) ⟨.str _, H, I.tok _, ⟨_, rfl⟩, q⟩
  | str x =>
    obtain ⟨t, rfl⟩ := rx
    rw [PyData.shown.eq_4] at q s4
    exact PySem.P.repr_of_str ⟨.str _, H, I.tok _, ⟨_, rfl⟩, q⟩ s4
  | lst h1 h2 => exact fin _ rx
  | tup h1 h2 => exact fin _ rx
end
def fReprX (d : PyData) : Option PyData := if shownOk d = true then some (.str d.shown) else none
section
variable {K : PySem.W.Frag}
theorem rc_reprX : RC1 (rRepr K) fReprX := fun F H e x dx dz hx hf Q q => by
  unfold fReprX at hf
  split at hf
  · next hs =>
    cases hf
    exact ⟨x, dx, rfl, hx.dp e, hs, q _ F H (Tn.refl e) (.str _)⟩
  · cases hf
end
theorem f_reprX {d : PyData} (h : shownOk d = true) : fReprX d = some (.str d.shown) := if_pos h
theorem f_reprX_bool (b : Bool) : fReprX (.bool b) = some (.str (if b then "True" else "False")) := by
  have : shownOk (.bool b) = true := by cases b <;> decide +kernel
  rw [f_reprX this]
  cases b <;> rfl
end DL

set_option Elab.async false
set_option linter.all false
set_option maxRecDepth 100000
set_option maxHeartbeats 2000000
/-! DLm: max of a tuple of ints -/
namespace DL
open PySem L2 Evl PySem.Spec PyProof.Rows
theorem CallR.or {X : Cx} {f : Value} {r1 r2 : List V → Hp → VK → Prop} (h1 : CallR X f r1) (h2 : CallR X f r2) : CallR X f fun xs H Q => r1 xs H Q ∨ r2 xs H Q := fun pins s σ H xs us Q I rv h => by
  rcases h with h | h
  · exact h1 pins s σ H xs us Q I rv h
  · exact h2 pins s σ H xs us Q I rv h
theorem maxOf_int (ns : List Int) : ∀ n : Int, PySem.W.maxOf n ns = ns.foldl max n := by
  unfold PySem.W.maxOf
  induction ns with
  | nil => exact fun _ => rfl
  | cons m ns ih =>
    intro n
    rw [List.foldl_cons, List.foldl_cons, ← ih]
    congr 1
    show (if decide (n < m) = true then m else n) = max n m
    by_cases h : n < m
    · rw [if_pos (decide_eq_true h)]; omega
    · rw [if_neg (by simpa using h)]; omega
def rMaxT (K : PySem.W.Frag) : List V → Hp → VK → Prop := fun vs H Q => ∃ (a : Addr) (ns : List Int), vs = [V.ref a] ∧ SqT K H a (ns.map V.int) ∧ 0 < ns.length ∧ Q (.int (lmax ns)) H
theorem dpAll_ints {K : PySem.W.Frag} {H : Hp} : ∀ ns : List Int, DpAll K H (ns.map V.int) (ns.map PyData.int)
  | [] => .nil
  | n :: ns => .cons (.int n) (dpAll_ints ns)
section
variable {X : Cx}
theorem cr_maxT (hc : X.calm = true) (hu : X.A.units + 64 < cLine) : CallR X (.builtin "max") (rMaxT X.K) := by
  intro pins s σ H vs us Q I r h
  obtain ⟨a, ns, rfl, hs, hne, q⟩ := h
  obtain ⟨u, rfl, rx⟩ := vals1 r
  obtain ⟨as, rd⟩ := Dp.reads I _ _ u (.tup hs (dpAll_ints ns)) rx
  cases ns with
  | nil => simp at hne
  | cons n ns =>
    cases rd with
    | tuple h1 h2 h3 h4 =>
      refine PySem.W.max_tuple_datum (α := Int) (x := n) (xs := ns) (I.ok.hd hc) ?_ ⟨_, h4⟩ (by show X.A.units + 1 + 0 < cLine; omega) fun i v h' tk _ hh hk => ?_
      · first | exact ⟨_, h1, _, h2, h3⟩ | exact ⟨_, h1, h2, _, h3⟩ | exact ⟨_, _, h1, _, h2, h3⟩ | exact ⟨_, h1, _, h3, h2⟩
      · obtain ⟨bs, rr⟩ := hh
        rw [maxOf_int] at rr
        generalize e : ns.foldl max n = m at rr
        have q' : Q (.int m) H := by rw [← e]; exact q
        cases rr
        exact ⟨.int _, H, I.kept hk, ⟨_, rfl⟩, q'⟩
end
def rMaxA (K : PySem.W.Frag) : List V → Hp → VK → Prop := fun xs H Q => rMax K xs H Q ∨ rMaxT K xs H Q
theorem cr_maxA {X : Cx} (hc : X.calm = true) (hu : X.A.units + 64 < cLine) : CallR X (.builtin "max") (rMaxA X.K) := CallR.or (cr_max hc) (cr_maxT hc hu)
def fMaxA (d : PyData) : Option PyData := (seqOf d).bind fun ds => (asInts ds).bind fun ns => if 0 < ns.length then some (.int (lmax ns)) else none
theorem rc_maxA {K : PySem.W.Frag} : RC1 (rMaxA K) fMaxA := fun F H e x dx dz hx hf Q q => by
  cases dx with
  | list ds => exact .inl (rc_maxL F H e x (.list ds) dz hx hf Q q)
  | tuple ds =>
    simp only [fMaxA, Option.bind_eq_some_iff, seqOf] at hf
    obtain ⟨_, e0, ns, h1, h3⟩ := hf
    cases e0
    split at h3
    · next hl =>
      cases h3
      rw [asInts_eq h1] at hx
      obtain ⟨p, vs, rfl, h4, h5⟩ := rp_tup (vw_tup hx)
      rw [RpAll.ints h5] at h4
      exact .inr ⟨p, ns, rfl, st_of (e _ _ h4), hl, q _ F H (Tn.refl e) (.int _)⟩
    · cases h3
  | _ => simp [fMaxA, seqOf] at hf
end DL

set_option Elab.async false
set_option linter.all false
set_option maxRecDepth 100000
set_option maxHeartbeats 2000000
/-! DLy: [..] * n as a new list of one's own -/
namespace DL
open PySem L2 Evl PySem.Spec PyProof.Rows
theorem inRep_ex (n : Nat) (k : Int) : ∃ b : Bool, b = true ↔ (-(2 ^ 63) ≤ k ∧ k < 2 ^ 63 ∧ n * k.toNat ≤ sizeLine) := ⟨_, decide_eq_true_iff⟩
noncomputable def inRep (n : Nat) (k : Int) : Bool := Classical.choose (inRep_ex n k)
theorem inRep_iff {n : Nat} {k : Int} : inRep n k = true ↔ (-(2 ^ 63) ≤ k ∧ k < 2 ^ 63 ∧ n * k.toNat ≤ sizeLine) := Classical.choose_spec (inRep_ex n k)
theorem inRep_nat {n k : Nat} (h : n * k ≤ 1000000) (h2 : k ≤ 1000000) : inRep n (k : Int) = true := by
  rw [inRep_iff]
  exact ⟨by omega, by omega, Nat.le_trans h (by decide)⟩
section
variable {cl : Nat → Addr} {K : PySem.W.Frag}
noncomputable def dRepN (a b : DI) : DE := fun ρ => (a ρ).bind fun r => (b r.2).bind fun s => (asLst r.1).bind fun ds => (toI s.1).bind fun k =>
  if inRep ds.length k = true then some (.nw (.lst (List.replicate k.toNat ds).flatten), s.2) else none
theorem se_rep {ta tb : TE} {a b : DI} (ha : SdI cl K ta a) (hb : SdV cl K tb b) : SdE cl K (tOp rMulAny ta tb) (dRepN a b) := fun F H σ ρ S s x ρ' h Q q => by
  simp only [dRepN, Option.bind_eq_some_iff] at h
  obtain ⟨⟨x1, ρ1⟩, h1, ⟨x2, ρ2⟩, h2, ds, h3, k, h4, h5⟩ := h
  split at h5
  · next hc =>
    have hc := inRep_iff.mp hc
    cases h5
    refine ha F H σ ρ S s _ _ h1 _ fun v F1 H1 S1 t1 s1 r1 => ?_
    refine hb F1 H1 σ _ S1 s1 _ _ h2 _ fun u F2 H2 S2 t2 s2 r2 => ?_
    cases x1 <;> simp [asLst] at h3
    subst h3
    cases x2 <;> simp [toI] at h4
    subst h4
    obtain ⟨p, vs, rfl, k1, k2⟩ := rp_lst (r1.mono t2.ex)
    refine .inr (.inr ⟨p, _, vs, rfl, r2.int, s2.ex _ _ k1, hc.1, hc.2.1, by rw [k2.length]; exact hc.2.2, fun l hl => ?_⟩)
    exact q _ F2 _ S2 ((t1.trans t2).trans (Tr.newO hl)) (s2.newO hl) (nw_ok (s2.newO hl) (none_back (t1.trans t2).there hl) (s2.fresh hl) (.lst (fresh_back s2.ex hl) upd_same (k2.flat _)))
  · cases h5
end
end DL

set_option Elab.async false
set_option linter.all false
set_option maxRecDepth 100000
set_option maxHeartbeats 2000000
/-! DLz: a, b = [], e by way of a tuple (where a name is a cell) -/
namespace DL
open PySem L2 Evl PySem.Spec PyProof.Rows
section
variable {cl : Nat → Addr} {K : PySem.W.Frag} {W : WX} {pn : List Nat}
theorem ss_TupOI {i j : Nat} {ta tb : TE} {a : DE} {b : DI} (ha : SdE cl K ta a) (hb : SdI cl K tb b) (hi : pn.contains i = false) (hj : pn.contains j = false) :
    SdS cl K W pn (tAsg (tTup (tCons ta (tCons tb tNil))) (gTup K 2 (gCons (gName i) (gCons (gName j) gNil)))) (dParOI i j a b) := fun F H σ ρ S s fl ρ' he D p => by
  simp only [dParOI, Option.bind_eq_some_iff] at he
  obtain ⟨⟨x, ρ1⟩, h1, h2⟩ := he
  refine ha F H σ ρ S s _ _ h1 _ fun v F1 H1 S1 t1 s1 r1 => ?_
  cases x with
  | im d => cases h2
  | «at» k => cases h2
  | nw o =>
    cases o with
    | dic _ => cases h2
    | dct _ => cases h2
    | ins _ _ => cases h2
    | lst ds =>
      simp only [Option.map_eq_some_iff] at h2
      obtain ⟨⟨y, ρ2⟩, h2, e⟩ := h2
      cases e
      obtain ⟨c, fp, rfl, ho, nd, hf⟩ := r1
      cases ho with
      | lst q1 q2 q3 =>
        have nS : c ∉ S1 := (List.nodup_cons.mp nd).1
        refine hb F1 H1 σ ρ1 S1 s1 _ _ h2 _ fun u F2 H2 S2 t2 s2 r2 => ?_
        have f2 : F2 c = none := t2.own c _ q2 rfl q1 nS
        have g2 : H2 c = _ := t2.keep c _ q2 nS
        have n2 : c ∉ S2 := fun hm => (t2.sub c hm).elim nS fun z => by rw [q2] at z; cases z
        refine ⟨by show 2 ≤ sizeLine; decide, fun tp htp => ?_⟩
        have g3 : upd H2 tp (.tup [.ref c, u]) c = _ := (upd_ne (ne_of_none g2 htp)).trans g2
        have s2' := s2.newO (o := .tup [.ref c, u]) htp
        obtain ⟨S3, s3, m3⟩ := s2'.put_ow (o := .lst ds) i (.lst f2 g3 (q3.mono t2.ex)) (List.nodup_cons.mpr ⟨n2, s2.nd⟩)
        obtain ⟨S4, s4, t4⟩ := s3.put_im j r2
        have tt := (t1.trans t2).trans (Tr.newO (S := S2) (F := F2) (o := .tup [.ref c, u]) htp)
        have t3 : Tr F H S F2 (upd H2 tp (.tup [.ref c, u])) S3 := ⟨tt.ex, tt.keep, tt.there, tt.own, fun p hp => by
          rcases m3 p hp with hp | hp
          · cases List.mem_singleton.mp hp
            exact hf c (.head _)
          · exact tt.sub p hp⟩
        refine ⟨tp, _, rfl, st_of upd_same, rfl, _, _, rfl, _, _, rfl, rfl, p F2 _ _ S4 (t3.trans t4) s4 fun k hk => ?_⟩
        rw [List.getElem?_set_ne, List.getElem?_set_ne]
        · intro z
          subst z
          simp at hi
          exact hi hk
        · intro z
          subst z
          simp at hj
          exact hj hk
end
end DL

set_option Elab.async false
set_option linter.all false
set_option maxRecDepth 100000
set_option maxHeartbeats 4000000

noncomputable section
namespace K05
open PySem L2 Evl DL
def topS (i : Nat) : Stmt := PySem.Challenge.pw_nightbook_k05_whole_groups_of_like_ones.main.body.getD i (.Pass ⟨0, 0, 0, 0⟩)
abbrev s_is_whole : Stmt := topS 5
abbrev ps_is_whole : List Str := ["thing"]
abbrev N_is_whole : List Str := ["thing"]
def d_is_whole : DS :=
    (dRet (dAndV (dIsi "int" (dVw 0)) (dNotV (dIsi "bool" (dVw 0)))))
def m_is_whole : FS := dFn 1 [] d_is_whole

abbrev s_holds : Stmt := topS 9
abbrev ps_holds : List Str := ["stretch", "night"]
abbrev N_holds : List Str := ["stretch", "night"]
def d_holds : DS :=
    (dRet (dChain fLe fLt (dOpN fIxAny 0 (dC (.int 0))) (dVar 1) (dOpN fIxAny 0 (dC (.int 1)))))
def m_holds : FS := dFn 2 [] d_holds

abbrev s_shared : Stmt := topS 10
abbrev ps_shared : List Str := ["one", "other"]
abbrev N_shared : List Str := ["one", "other", "first", "behind"]
def d_shared : DS :=
    (dSeq (dAsg 2 (dOp fMax2 (dOpN fIxAny 0 (dC (.int 0))) (dOpN fIxAny 1 (dC (.int 0)))))
    (dSeq (dAsg 3 (dOp fMin2 (dOpN fIxAny 0 (dC (.int 1))) (dOpN fIxAny 1 (dC (.int 1)))))
    (dSeq (dIfS (dTest (dOpN fLt 2 (dVw 3))) (dRet (dTup (dCons (dVar 2) (dCons (dVar 3) dNil)))) dNext)
    (dRet (dC .none)))))
def m_shared : FS := dFn 4 [] d_shared

abbrev s_in_turn : Stmt := topS 17
abbrev ps_in_turn : List Str := ["groups"]
abbrev N_in_turn : List Str := ["groups", "at", "first"]
def d_in_turn : DS :=
    (dRet (dIm (dLc (dItL (dUn fSortP (dIm (dLc (dRng1 (dUn fLenAny (dVw 0))) (dName 1) dYes (dTup (dCons (dOp fIxAny (dOpN fIxAny 0 (dVw 1)) (dC (.int 0))) (dCons (dVar 1) dNil))) [1])))) (dGTup 2 (dGCons (dName 2) (dGCons (dName 1) dGNil))) dYes (dVar 1) [2, 1])))
def m_in_turn : FS := dFn 3 [] d_in_turn

abbrev s_row_behind : Stmt := topS 18
abbrev ps_row_behind : List Str := ["row", "group", "place"]
abbrev N_row_behind : List Str := ["row", "group", "place", "first", "behind", "many", "found", "room"]
def d_row_behind : DS :=
    (dSeq (dAsgG (dVar 1) (dGTup 3 (dGCons (dName 3) (dGCons (dName 4) (dGCons (dName 5) dGNil)))))
    (dSeq (dIfS (dOr (dTest (dOp fGt (dOpN fAddAny 2 (dVw 5)) (dUn fLenAny (dVw 0)))) (dTest (dOp fGt (dUn fMaxA (dSlN fSlAny 0 (dPart (dVar 2)) (dPart (dOpN fAddAny 2 (dVw 5))))) (dVw 3)))) (dRet (dC .none)) dNext)
    (dSeq (dAsgO 6 (dLst dNil))
    (dSeq (dFor (dRng1 (dUn fLenAny (dVw 0))) (dName 7) (dIfS (dTest (dChain fLe fLt (dVar 2) (dVar 7) (dOpN fAddAny 2 (dVw 5)))) (dApp 6 (dVar 4)) (dIfS (dTest (dOp fLe (dOpN fIxAny 0 (dVw 7)) (dVw 3))) (dApp 6 (dC (.int 0))) (dApp 6 (dOpN fIxAny 0 (dVw 7))))))
    (dRet (dUn fTupleOf (dVw 6)))))))
def m_row_behind : FS := dFn 8 [] d_row_behind

abbrev s__law_bag : Stmt := topS 33
abbrev ps__law_bag : List Str := ["script"]
abbrev N__law_bag : List Str := ["script", "cell"]
def d__law_bag : DS :=
    (dRetE (dLst (dCons (dC (.int 0)) (dCons (dC (.int 1234567891)) (dCons (dC (.int 0)) (dCons (dIm (dLc (dItL (dScrSl 0 dNoPart (dPart (dC (.int 63))))) (dName 1) dYes (dUn fAbs (dVw 1)) [1])) dNil))))))
def m__law_bag : FS := dFn 2 [] d__law_bag

abbrev s__law_take : Stmt := topS 34
abbrev ps__law_take : List Str := ["bag", "many"]
abbrev N__law_take : List Str := ["bag", "many", "more", "cell", "value", "first", "second"]
def d__law_take : DS :=
    (dSeq (dIfS (dTest (dOp fEq (dOpN fIxAny 0 (dC (.int 0))) (dC (.int 0)))) (dSeq (dAsg 2 (dC (.int 12345)))
    (dSeq (dIfS (dTest (dOp fLt (dOpN fIxAny 0 (dC (.int 2))) (dUn fLenAny (dOpN fIxAny 0 (dC (.int 3)))))) (dSeq (dAsg 3 (dOp fIxAny (dOpN fIxAny 0 (dC (.int 3))) (dOpN fIxAny 0 (dC (.int 2)))))
    (dSeq (dAugL 0 (fun i j => i + j) (dC (.int 2)) (dC (.int 1)))
    (dSeq (dIfS (dTest (dOpN fGe 3 (dC (.int 1000000000000000000)))) (dSet 0 (dVar 3) (dC (.int 0))) dNext)
    (dAsg 2 (dOp fAddAny (dOpN fMod 3 (dC (.int 2147483647))) (dC (.int 1))))))) dNext)
    (dSet 0 (dOp fMod (dOp fAddAny (dOp fMulAny (dOpN fIxAny 0 (dC (.int 1))) (dC (.int 48271))) (dVw 2)) (dC (.int 2147483647))) (dC (.int 1))))) dNext)
    (dSeq (dIfS (dTest (dOp fGt (dOpN fIxAny 0 (dC (.int 0))) (dC (.int 0)))) (dSeq (dAsg 4 (dOp fMod (dOpN fIxAny 0 (dC (.int 0))) (dVw 1)))
    (dSeq (dSet 0 (dOp fDivB (dOpN fIxAny 0 (dC (.int 0))) (dVw 1)) (dC (.int 0)))
    (dRet (dVar 4)))) dNext)
    (dSeq (dAsg 5 (dOp fMod (dOp fMulAny (dOpN fIxAny 0 (dC (.int 1))) (dC (.int 39373))) (dC (.int 1000000007))))
    (dSeq (dAsg 6 (dOp fMod (dOpN fMulAny 5 (dC (.int 30011))) (dC (.int 998244353))))
    (dSeq (dIfS (dTest (dOpN fGt 1 (dC (.int 1000000)))) (dRet (dOp fMod (dOp fAddAny (dOpN fMulAny 6 (dC (.int 1000000000))) (dVw 5)) (dVw 1))) dNext)
    (dRet (dOp fMod (dOpN fDivB 6 (dC (.int 3))) (dVw 1))))))))
def m__law_take : FS := dFn 7 [0] d__law_take

abbrev s__law_alike : Stmt := topS 35
abbrev ps__law_alike : List Str := ["found", "due"]
abbrev N__law_alike : List Str := ["found", "due"]
def d__law_alike : DS :=
    (dRet (dAndV (dOpN fEq 0 (dVw 1)) (dOp fEq (dUn fReprX (dVw 0)) (dUn fReprX (dVw 1)))))
def m__law_alike : FS := dFn 2 [] d__law_alike

abbrev s__law_lots : Stmt := topS 38
abbrev ps__law_lots : List Str := ["places", "many"]
abbrev N__law_lots : List Str := ["places", "many", "found", "place", "lot"]
def d__law_lots : DS :=
    (dSeq (dAsg 2 (dIm (dLst (dCons (dIm (dLst dNil)) dNil))))
    (dSeq (dFor (dItL (dVar 0)) (dName 3) (dAsg 2 (dOpN fAddAny 2 (dIm (dLc (dItL (dVar 2)) (dName 4) dYes (dOpN fAddAny 4 (dIm (dLst (dCons (dVar 3) dNil)))) [4])))))
    (dRet (dIm (dLc (dItL (dVar 2)) (dName 4) (dTest (dOp fEq (dUn fLenAny (dVw 4)) (dVw 1))) (dVar 4) [4])))))
def m__law_lots : FS := dFn 5 [] d__law_lots

abbrev s_is_stretch : Stmt := topS 8
abbrev ps_is_stretch : List Str := ["thing"]
abbrev N_is_stretch : List Str := ["thing"]
def d_is_stretch : DS :=
    (dSeq (dIfS (dOr (dNot (dTest (dIsi "tuple" (dVw 0)))) (dTest (dOp fNe (dUn fLenAny (dVw 0)) (dC (.int 2))))) (dRet (dC (.bool false))) dNext)
    (dSeq (dIfS (dOr (dNot (dTest (dIm (dCall m_is_whole [] (dConsR (dEx (dOpN fIxAny 0 (dC (.int 0)))) dNilR))))) (dNot (dTest (dIm (dCall m_is_whole [] (dConsR (dEx (dOpN fIxAny 0 (dC (.int 1)))) dNilR)))))) (dRet (dC (.bool false))) dNext)
    (dRet (dChain3 fLe fLt fLe (dC (.int 0)) (dOpN fIxAny 0 (dC (.int 0))) (dOpN fIxAny 0 (dC (.int 1))) (dC (.int 400))))))
def m_is_stretch : FS := dFn 1 [] d_is_stretch

abbrev s_meets : Stmt := topS 11
abbrev ps_meets : List Str := ["one", "other"]
abbrev N_meets : List Str := ["one", "other"]
def d_meets : DS :=
    (dRet (dOp fIsNot (dIm (dCall m_shared [] (dConsR (dEx (dVar 0)) (dConsR (dEx (dVar 1)) dNilR)))) (dC .none)))
def m_meets : FS := dFn 2 [] d_meets

abbrev s_rows_behind : Stmt := topS 19
abbrev ps_rows_behind : List Str := ["rows", "group"]
abbrev N_rows_behind : List Str := ["rows", "group", "found", "row", "place", "other"]
def d_rows_behind : DS :=
    (dSeq (dAsgO 2 dNewT)
    (dSeq (dFor (dItL (dVar 0)) (dName 3) (dFor (dRng1 (dUn fLenAny (dVw 3))) (dName 4) (dSeq (dAsg 5 (dIm (dCall m_row_behind [] (dConsR (dEx (dVar 3)) (dConsR (dEx (dVar 1)) (dConsR (dEx (dVar 4)) dNilR))))))
    (dIfS (dTest (dOpN fIsNot 5 (dC .none))) (dTPut 2 (dVar 5) (dC (.bool true))) dNext))))
    (dRet (dSortDT 2))))
def m_rows_behind : FS := dFn 6 [] d_rows_behind

abbrev s_step_to : Stmt := topS 21
abbrev ps_step_to : List Str := ["rows", "group", "wanted"]
abbrev N_step_to : List Str := ["rows", "group", "wanted", "row", "place"]
def d_step_to : DS :=
    (dSeq (dFor (dItL (dVar 0)) (dName 3) (dFor (dRng1 (dUn fLenAny (dVw 3))) (dName 4) (dIfS (dTest (dOp fEq (dIm (dCall m_row_behind [] (dConsR (dEx (dVar 3)) (dConsR (dEx (dVar 1)) (dConsR (dEx (dVar 4)) dNilR))))) (dVw 2))) (dRet (dTup (dCons (dVar 3) (dCons (dVar 4) dNil)))) dNext)))
    (dRet (dC .none)))
def m_step_to : FS := dFn 5 [] d_step_to

abbrev s_is_place : Stmt := topS 24
abbrev ps_is_place : List Str := ["held", "group", "place"]
abbrev N_is_place : List Str := ["held", "group", "place", "first", "behind", "many"]
def d_is_place : DS :=
    (dSeq (dAsgG (dVar 1) (dGTup 3 (dGCons (dName 3) (dGCons (dName 4) (dGCons (dName 5) dGNil)))))
    (dSeq (dIfS (dOr (dNot (dTest (dIm (dCall m_is_whole [] (dConsR (dEx (dVar 2)) dNilR))))) (dNot (dTest (dChain fLe fLe (dC (.int 0)) (dVar 2) (dOp fSub (dUn fLenAny (dVw 0)) (dVw 5)))))) (dRet (dC (.bool false))) dNext)
    (dRet (dOp fLe (dUn fMaxA (dSlN fSlAny 0 (dPart (dVar 2)) (dPart (dOpN fAddAny 2 (dVw 5))))) (dVw 3)))))
def m_is_place : FS := dFn 6 [] d_is_place

abbrev s_is_rows : Stmt := topS 27
abbrev ps_is_rows : List Str := ["thing", "wide"]
abbrev N_is_rows : List Str := ["thing", "wide", "row", "number"]
def d_is_rows : DS :=
    (dSeq (dIfS (dNot (dTest (dIsi "list" (dVw 0)))) (dRet (dC (.bool false))) dNext)
    (dSeq (dFor (dItL (dVar 0)) (dName 2) (dSeq (dIfS (dOr (dNot (dTest (dIsi "tuple" (dVw 2)))) (dTest (dOp fNe (dUn fLenAny (dVw 2)) (dVw 1)))) (dRet (dC (.bool false))) dNext)
    (dFor (dItT (dVar 2)) (dName 3) (dIfS (dNot (dTest (dIm (dCall m_is_whole [] (dConsR (dEx (dVar 3)) dNilR))))) (dRet (dC (.bool false))) dNext))))
    (dRet (dC (.bool true)))))
def m_is_rows : FS := dFn 4 [] d_is_rows

abbrev s_row_at : Stmt := topS 31
abbrev ps_row_at : List Str := ["wide", "groups", "places", "night"]
abbrev N_row_at : List Str := ["wide", "groups", "places", "night", "row", "at", "room"]
def d_row_at : DS :=
    (dSeq (dAsgO 4 (dRepN (dIm (dLst (dCons (dC .none) dNil))) (dVw 0)))
    (dSeq (dFor (dRng1 (dUn fLenAny (dVw 1))) (dName 5) (dIfS (dTest (dIm (dCall m_holds [] (dConsR (dEx (dSl fSlAny (dOpN fIxAny 1 (dVw 5)) dNoPart (dPart (dC (.int 2))))) (dConsR (dEx (dVar 3)) dNilR))))) (dFor (dRng2 (dOpN fIxAny 2 (dVw 5)) (dOp fAddAny (dOpN fIxAny 2 (dVw 5)) (dOp fIxAny (dOpN fIxAny 1 (dVw 5)) (dC (.int 2))))) (dName 6) (dSet 4 (dVar 5) (dVar 6))) dNext))
    (dRet (dFz 4))))
def m_row_at : FS := dFn 7 [] d_row_at

abbrev s__law_some : Stmt := topS 36
abbrev ps__law_some : List Str := ["bag", "things"]
abbrev N__law_some : List Str := ["bag", "things"]
def d__law_some : DS :=
    (dRet (dOpN fIxAny 1 (dIm (dCall m__law_take [] (dConsR (dAt 0) (dConsR (dEx (dUn fLenAny (dVw 1))) dNilR))))))
def m__law_some : FS := dFn 2 [0] d__law_some

abbrev s__law_mixed : Stmt := topS 37
abbrev ps__law_mixed : List Str := ["bag", "things"]
abbrev N__law_mixed : List Str := ["bag", "things", "found", "k", "j"]
def d__law_mixed : DS :=
    (dSeq (dAsgO 2 (dNewL seqOf (dVw 1)))
    (dSeq (dFor (dRng1 (dUn fLenAny (dVw 2))) (dName 3) (dSeq (dAsg 4 (dIm (dCall m__law_take [] (dConsR (dAt 0) (dConsR (dEx (dUn fLenAny (dVw 2))) dNilR)))))
    (dAsgG (dTup (dCons (dOpN fIxAny 2 (dVw 4)) (dCons (dOpN fIxAny 2 (dVw 3)) dNil))) (dGTup 2 (dGCons (dGSub 2 (dVar 3)) (dGCons (dGSub 2 (dVar 4)) dGNil))))))
    (dRet (dFz 2))))
def m__law_mixed : FS := dFn 5 [0] d__law_mixed

abbrev s__law_lists : Stmt := topS 39
abbrev ps__law_lists : List Str := ["wide", "free", "many", "behind"]
abbrev N__law_lists : List Str := ["wide", "free", "many", "behind", "found", "number", "rows", "lot", "some", "room"]
def d__law_lists : DS :=
    (dSeq (dAsgO 4 (dLst dNil))
    (dSeq (dFor (dRng2 (dC (.int 1)) (dOpN fAddAny 2 (dC (.int 1)))) (dName 5) (dSeq (dAsgO 6 (dLst dNil))
    (dSeq (dFor (dItL (dIm (dCall m__law_lots [] (dConsR (dEx (dVar 1)) (dConsR (dEx (dVar 5)) dNilR))))) (dName 7) (dSeq (dAsg 8 (dIm (dLc (dRng1 (dVar 0)) (dName 9) dYes (dIf (dTest (dOpN fIn 9 (dVw 7))) (dVar 3) (dIf (dTest (dOpN fIn 9 (dVw 1))) (dC (.int 0)) (dC (.int 400)))) [9])))
    (dApp 6 (dUn fTupleOf (dVw 8)))))
    (dApp 4 (dUn fSortT (dVw 6))))))
    (dRet (dFz 4))))
def m__law_lists : FS := dFn 10 [] d__law_lists

abbrev s_is_group : Stmt := topS 15
abbrev ps_is_group : List Str := ["thing"]
abbrev N_is_group : List Str := ["thing"]
def d_is_group : DS :=
    (dSeq (dIfS (dOr (dNot (dTest (dIsi "tuple" (dVw 0)))) (dTest (dOp fNe (dUn fLenAny (dVw 0)) (dC (.int 3))))) (dRet (dC (.bool false))) dNext)
    (dRet (dAndV (dIm (dCall m_is_stretch [] (dConsR (dEx (dSlN fSlAny 0 dNoPart (dPart (dC (.int 2))))) dNilR))) (dAndV (dIm (dCall m_is_whole [] (dConsR (dEx (dOpN fIxAny 0 (dC (.int 2)))) dNilR))) (dChain fLe fLe (dC (.int 1)) (dOpN fIxAny 0 (dC (.int 2))) (dC (.int 6)))))))
def m_is_group : FS := dFn 1 [] d_is_group

abbrev s_lists_of : Stmt := topS 20
abbrev ps_lists_of : List Str := ["held", "groups"]
abbrev N_lists_of : List Str := ["held", "groups", "lists", "rows", "at"]
def d_lists_of : DS :=
    (dSeq (dAsgO 2 (dLst dNil))
    (dSeq (dAsg 3 (dIm (dLst (dCons (dUn fTupleOf (dVw 0)) dNil))))
    (dSeq (dFor (dItL (dIm (dCall m_in_turn [] (dConsR (dEx (dVar 1)) dNilR)))) (dName 4) (dSeq (dAsg 3 (dIm (dCall m_rows_behind [] (dConsR (dEx (dVar 3)) (dConsR (dEx (dOpN fIxAny 1 (dVw 4))) dNilR)))))
    (dSeq (dApp 2 (dVar 3))
    (dSeq (dIfS (dTest (dOp fGt (dUn fLenAny (dVw 3)) (dC (.int 400)))) (dRaise 13 (dUn fLenAny (dVw 2))) dNext)
    (dIfS (dTest (dOpN fEq 3 (dIm (dLst dNil)))) dBreak dNext)))))
    (dRet (dFz 2)))))
def m_lists_of : FS := dFn 5 [] d_lists_of
def x_lists_of : FSX := dFnX 5 [] d_lists_of

abbrev s_places_by : Stmt := topS 22
abbrev ps_places_by : List Str := ["held", "groups", "lists"]
abbrev N_places_by : List Str := ["held", "groups", "lists", "places", "turns", "wanted", "k", "ahead", "place"]
def d_places_by : DS :=
    (dSeq (dAsgO 3 (dRepN (dIm (dLst (dCons (dC (.int 0)) dNil))) (dUn fLenAny (dVw 1))))
    (dSeq (dAsg 4 (dIm (dCall m_in_turn [] (dConsR (dEx (dVar 1)) dNilR))))
    (dSeq (dAsg 5 (dOp fIxAny (dOpN fIxAny 2 (dUn fNeg (dC (.int 1)))) (dC (.int 0))))
    (dSeq (dFor (dRng3 (dOp fSub (dUn fLenAny (dVw 4)) (dC (.int 1))) (dUn fNeg (dC (.int 1))) (dUn fNeg (dC (.int 1)))) (dName 6) (dSeq (dAsg 7 (dIm (dLst (dCons (dUn fTupleOf (dVw 0)) dNil))))
    (dSeq (dIfS (dTest (dOpN fGt 6 (dC (.int 0)))) (dAsg 7 (dOpN fIxAny 2 (dOpN fSub 6 (dC (.int 1))))) dNext)
    (dSeq (dAsgG (dIm (dCall m_step_to [] (dConsR (dEx (dVar 7)) (dConsR (dEx (dOpN fIxAny 1 (dOpN fIxAny 4 (dVw 6)))) (dConsR (dEx (dVar 5)) dNilR))))) (dGTup 2 (dGCons (dName 5) (dGCons (dName 8) dGNil))))
    (dSet 3 (dVar 8) (dOpN fIxAny 4 (dVw 6)))))))
    (dRet (dFz 3))))))
def m_places_by : FS := dFn 9 [] d_places_by

abbrev s_apart : Stmt := topS 25
abbrev ps_apart : List Str := ["one", "place", "other", "there"]
abbrev N_apart : List Str := ["one", "place", "other", "there"]
def d_apart : DS :=
    (dSeq (dIfS (dNot (dTest (dIm (dCall m_meets [] (dConsR (dEx (dSlN fSlAny 0 dNoPart (dPart (dC (.int 2))))) (dConsR (dEx (dSlN fSlAny 2 dNoPart (dPart (dC (.int 2))))) dNilR)))))) (dRet (dC (.bool true))) dNext)
    (dRet (dOrV (dOp fLe (dOpN fAddAny 1 (dOpN fIxAny 0 (dC (.int 2)))) (dVw 3)) (dOp fLe (dOpN fAddAny 3 (dOpN fIxAny 2 (dC (.int 2)))) (dVw 1)))))
def m_apart : FS := dFn 4 [] d_apart

abbrev s_check_groups : Stmt := topS 16
abbrev ps_check_groups : List Str := ["groups"]
abbrev N_check_groups : List Str := ["groups", "at", "group"]
def d_check_groups : DS :=
    (dFor (dEnum (dVar 0)) (dGTup 2 (dGCons (dName 1) (dGCons (dName 2) dGNil))) (dIfS (dNot (dTest (dIm (dCall m_is_group [] (dConsR (dEx (dVar 2)) dNilR))))) (dRaise 6 (dVar 1)) dNext))
def m_check_groups : FS := dFn 3 [] d_check_groups
def x_check_groups : FSX := dFnX 3 [] d_check_groups

abbrev s_laid : Stmt := topS 23
abbrev ps_laid : List Str := ["held", "groups"]
abbrev N_laid : List Str := ["held", "groups", "lists"]
def d_laid : DS :=
    (dSeq (dTryX (xCall x_check_groups [] (dConsR (dEx (dVar 1)) dNilR)) (dDrop (dCall m_check_groups [] (dConsR (dEx (dVar 1)) dNilR))))
    (dSeq (dTryX (xCall x_lists_of [] (dConsR (dEx (dVar 0)) (dConsR (dEx (dVar 1)) dNilR))) (dAsg 2 (dIm (dCall m_lists_of [] (dConsR (dEx (dVar 0)) (dConsR (dEx (dVar 1)) dNilR))))))
    (dSeq (dIfS (dTest (dOpN fEq 2 (dIm (dLst dNil)))) (dRet (dTup (dCons (dC (.str "laid")) (dCons (dIm (dLst dNil)) dNil)))) dNext)
    (dSeq (dIfS (dTest (dOp fEq (dOpN fIxAny 2 (dUn fNeg (dC (.int 1)))) (dIm (dLst dNil)))) (dRet (dTup (dCons (dC (.str "none")) (dCons (dVar 2) dNil)))) dNext)
    (dRet (dTup (dCons (dC (.str "laid")) (dCons (dIm (dCall m_places_by [] (dConsR (dEx (dVar 0)) (dConsR (dEx (dVar 1)) (dConsR (dEx (dVar 2)) dNilR))))) dNil))))))))
def m_laid : FS := dFn 3 [] d_laid
def x_laid : FSX := dFnX 3 [] d_laid

abbrev s_is_laid : Stmt := topS 26
abbrev ps_is_laid : List Str := ["held", "groups", "thing"]
abbrev N_is_laid : List Str := ["held", "groups", "thing", "at", "k"]
def d_is_laid : DS :=
    (dSeq (dDrop (dCall m_check_groups [] (dConsR (dEx (dVar 1)) dNilR)))
    (dSeq (dIfS (dOr (dNot (dTest (dIsi "list" (dVw 2)))) (dTest (dOp fNe (dUn fLenAny (dVw 2)) (dUn fLenAny (dVw 1))))) (dRet (dC (.bool false))) dNext)
    (dSeq (dFor (dRng1 (dUn fLenAny (dVw 1))) (dName 3) (dIfS (dNot (dTest (dIm (dCall m_is_place [] (dConsR (dEx (dVar 0)) (dConsR (dEx (dOpN fIxAny 1 (dVw 3))) (dConsR (dEx (dOpN fIxAny 2 (dVw 3))) dNilR))))))) (dRet (dC (.bool false))) dNext))
    (dSeq (dFor (dRng1 (dUn fLenAny (dVw 1))) (dName 3) (dFor (dRng1 (dVar 3)) (dName 4) (dIfS (dNot (dTest (dIm (dCall m_apart [] (dConsR (dEx (dOpN fIxAny 1 (dVw 4))) (dConsR (dEx (dOpN fIxAny 2 (dVw 4))) (dConsR (dEx (dOpN fIxAny 1 (dVw 3))) (dConsR (dEx (dOpN fIxAny 2 (dVw 3))) dNilR)))))))) (dRet (dC (.bool false))) dNext)))
    (dRet (dC (.bool true)))))))
def m_is_laid : FS := dFn 5 [] d_is_laid

abbrev s_is_none : Stmt := topS 28
abbrev ps_is_none : List Str := ["held", "groups", "thing"]
abbrev N_is_none : List Str := ["held", "groups", "thing", "rows", "turns", "ahead", "k", "there", "row"]
def d_is_none : DS :=
    (dSeq (dDrop (dCall m_check_groups [] (dConsR (dEx (dVar 1)) dNilR)))
    (dSeq (dIfS (dOr (dNot (dTest (dIsi "list" (dVw 2)))) (dNot (dTest (dChain fLe fLe (dC (.int 1)) (dUn fLenAny (dVw 2)) (dUn fLenAny (dVw 1)))))) (dRet (dC (.bool false))) dNext)
    (dSeq (dFor (dItL (dVar 2)) (dName 3) (dIfS (dNot (dTest (dIm (dCall m_is_rows [] (dConsR (dEx (dVar 3)) (dConsR (dEx (dUn fLenAny (dVw 0))) dNilR)))))) (dRet (dC (.bool false))) dNext))
    (dSeq (dAsg 4 (dIm (dCall m_in_turn [] (dConsR (dEx (dVar 1)) dNilR))))
    (dSeq (dAsg 5 (dIm (dLst (dCons (dUn fTupleOf (dVw 0)) dNil))))
    (dSeq (dFor (dRng1 (dUn fLenAny (dVw 2))) (dName 6) (dSeq (dAsgO 7 (dDictPT (dIm (dLc (dItL (dOpN fIxAny 2 (dVw 6))) (dName 8) dYes (dTup (dCons (dVar 8) (dCons (dC (.bool true)) dNil))) [8]))))
    (dSeq (dFor (dItL (dIm (dCall m_rows_behind [] (dConsR (dEx (dVar 5)) (dConsR (dEx (dOpN fIxAny 1 (dOpN fIxAny 4 (dVw 6)))) dNilR))))) (dName 8) (dIfS (dTest (dTIn true 7 (dVar 8))) (dRet (dC (.bool false))) dNext))
    (dAsg 5 (dOpN fIxAny 2 (dVw 6))))))
    (dRet (dOp fEq (dOpN fIxAny 2 (dUn fNeg (dC (.int 1)))) (dIm (dLst dNil))))))))))
def m_is_none : FS := dFn 9 [] d_is_none

abbrev s_least_wide : Stmt := topS 30
abbrev ps_least_wide : List Str := ["groups"]
abbrev N_least_wide : List Str := ["groups", "ahead", "wide", "word", "found"]
def d_least_wide : DS :=
    (dSeq (dTryX (xCall x_check_groups [] (dConsR (dEx (dVar 0)) dNilR)) (dDrop (dCall m_check_groups [] (dConsR (dEx (dVar 0)) dNilR))))
    (dSeq (dIfS (dTest (dOpN fEq 0 (dIm (dLst dNil)))) (dRet (dTup (dCons (dC (.str "wide")) (dCons (dC (.int 0)) (dCons (dIm (dLst dNil)) (dCons (dIm (dLst dNil)) dNil)))))) dNext)
    (dSeq (dAsg 1 (dIm (dLst dNil)))
    (dSeq (dFor (dRng2 (dC (.int 1)) (dOp fAddAny (dC (.int 6)) (dC (.int 1)))) (dName 2) (dSeq (dTryX (xCall x_laid [] (dConsR (dEx (dOp fMulAny (dIm (dLst (dCons (dC (.int 0)) dNil))) (dVw 2))) (dConsR (dEx (dVar 0)) dNilR))) (dAsgG (dIm (dCall m_laid [] (dConsR (dEx (dOp fMulAny (dIm (dLst (dCons (dC (.int 0)) dNil))) (dVw 2))) (dConsR (dEx (dVar 0)) dNilR)))) (dGTup 2 (dGCons (dName 3) (dGCons (dName 4) dGNil)))))
    (dSeq (dIfS (dTest (dOpN fEq 3 (dC (.str "laid")))) (dRet (dTup (dCons (dC (.str "wide")) (dCons (dVar 2) (dCons (dVar 4) (dCons (dVar 1) dNil)))))) dNext)
    (dAsg 1 (dVar 4)))))
    (dRet (dTup (dCons (dC (.str "none")) (dCons (dVar 1) dNil))))))))
def m_least_wide : FS := dFn 5 [] d_least_wide
def x_least_wide : FSX := dFnX 5 [] d_least_wide

abbrev s__law_singles_told : Stmt := topS 40
abbrev ps__law_singles_told : List Str := ["bag"]
abbrev N__law_singles_told : List Str := ["bag", "wide", "held", "free", "first", "many", "behind", "groups", "told", "own", "lists", "due", "wider", "bent", "room", "rows"]
def d__law_singles_told : DS :=
    (dSeq (dAsg 1 (dOp fAddAny (dC (.int 1)) (dIm (dCall m__law_take [] (dConsR (dAt 0) (dConsR (dEx (dC (.int 6))) dNilR))))))
    (dSeq (dAsg 2 (dIm (dLc (dRng1 (dVar 1)) (dName 14) dYes (dIm (dCall m__law_some [] (dConsR (dAt 0) (dConsR (dLst (dCons (dC (.int 0)) (dCons (dC (.int 0)) (dCons (dC (.int 400)) dNil)))) dNilR)))) [14])))
    (dSeq (dAsg 3 (dIm (dLc (dRng1 (dVar 1)) (dName 14) (dTest (dOp fEq (dOpN fIxAny 2 (dVw 14)) (dC (.int 0)))) (dVar 14) [14])))
    (dSeq (dPar 4 5 (dCons (dIm (dCall m__law_take [] (dConsR (dAt 0) (dConsR (dEx (dC (.int 300))) dNilR)))) (dCons (dIm (dCall m__law_take [] (dConsR (dAt 0) (dConsR (dEx (dC (.int 9))) dNilR)))) dNil)))
    (dSeq (dAsg 6 (dOp fAddAny (dOpN fAddAny 4 (dC (.int 1))) (dIm (dCall m__law_take [] (dConsR (dAt 0) (dConsR (dEx (dC (.int 3))) dNilR))))))
    (dSeq (dAsg 7 (dOp fMulAny (dIm (dLst (dCons (dTup (dCons (dVar 4) (dCons (dVar 6) (dCons (dC (.int 1)) dNil)))) dNil))) (dVw 5)))
    (dSeq (dAsg 8 (dIm (dCall m_laid [] (dConsR (dEx (dVar 2)) (dConsR (dEx (dVar 7)) dNilR)))))
    (dSeq (dIfS (dTest (dOpN fLe 5 (dUn fLenAny (dVw 3)))) (dSeq (dIfS (dOr (dTest (dOp fNe (dOpN fIxAny 8 (dC (.int 0))) (dC (.str "laid")))) (dTest (dOp fNe (dUn fLenAny (dOpN fIxAny 8 (dC (.int 1)))) (dVw 5)))) (dRet (dC (.bool false))) dNext)
    (dSeq (dIfS (dTest (dOp fNe (dUn fSortI (dOpN fIxAny 8 (dC (.int 1)))) (dIm (dLc (dItL (dVar 3)) (dName 14) (dTest (dOpN fIn 14 (dOpN fIxAny 8 (dC (.int 1))))) (dVar 14) [14])))) (dRet (dC (.bool false))) dNext)
    (dSeq (dIfS (dNot (dTest (dIm (dCall m__law_alike [] (dConsR (dCall m_is_laid [] (dConsR (dEx (dVar 2)) (dConsR (dEx (dVar 7)) (dConsR (dEx (dOpN fIxAny 8 (dC (.int 1)))) dNilR)))) (dConsR (dEx (dC (.bool true))) dNilR)))))) (dRet (dC (.bool false))) dNext)
    (dSeq (dAsg 9 (dSl fSlAny (dIm (dCall m__law_mixed [] (dConsR (dAt 0) (dConsR (dEx (dVar 3)) dNilR)))) dNoPart (dPart (dVar 5))))
    (dSeq (dIfS (dNot (dTest (dIm (dCall m__law_alike [] (dConsR (dCall m_is_laid [] (dConsR (dEx (dVar 2)) (dConsR (dEx (dVar 7)) (dConsR (dEx (dVar 9)) dNilR)))) (dConsR (dEx (dC (.bool true))) dNilR)))))) (dRet (dC (.bool false))) dNext)
    (dSeq (dAsg 10 (dIm (dCall m__law_lists [] (dConsR (dEx (dVar 1)) (dConsR (dEx (dVar 3)) (dConsR (dEx (dVar 5)) (dConsR (dEx (dVar 6)) dNilR)))))))
    (dRet (dOrV (dOpN fEq 5 (dC (.int 0))) (dIm (dCall m__law_alike [] (dConsR (dCall m_is_none [] (dConsR (dEx (dVar 2)) (dConsR (dEx (dVar 7)) (dConsR (dEx (dVar 10)) dNilR)))) (dConsR (dEx (dC (.bool false))) dNilR)))))))))))) dNext)
    (dSeq (dAsg 11 (dIm (dCall m__law_lists [] (dConsR (dEx (dVar 1)) (dConsR (dEx (dVar 3)) (dConsR (dEx (dOp fAddAny (dUn fLenAny (dVw 3)) (dC (.int 1)))) (dConsR (dEx (dVar 6)) dNilR)))))))
    (dSeq (dIfS (dOr (dTest (dOpN fNe 8 (dTup (dCons (dC (.str "none")) (dCons (dVar 11) dNil))))) (dNot (dTest (dIm (dCall m__law_alike [] (dConsR (dCall m_is_none [] (dConsR (dEx (dVar 2)) (dConsR (dEx (dVar 7)) (dConsR (dEx (dVar 11)) dNilR)))) (dConsR (dEx (dC (.bool true))) dNilR))))))) (dRet (dC (.bool false))) dNext)
    (dSeq (dAsg 12 (dOp fAddAny (dIm (dLc (dItL (dSlN fSlAny 11 dNoPart (dPart (dUn fNeg (dC (.int 1)))))) (dName 15) dYes (dOp fAddAny (dIm (dCall m__law_mixed [] (dConsR (dAt 0) (dConsR (dEx (dVar 15)) dNilR)))) (dSlN fSlAny 15 dNoPart (dPart (dC (.int 1))))) [15])) (dIm (dLst (dCons (dIm (dLst dNil)) dNil)))))
    (dSeq (dIfS (dNot (dTest (dIm (dCall m__law_alike [] (dConsR (dCall m_is_none [] (dConsR (dEx (dVar 2)) (dConsR (dEx (dVar 7)) (dConsR (dEx (dVar 12)) dNilR)))) (dConsR (dEx (dC (.bool true))) dNilR)))))) (dRet (dC (.bool false))) dNext)
    (dSeq (dIfS (dAnd (dTest (dOp fGt (dUn fLenAny (dVw 11)) (dC (.int 1)))) (dTest (dOp fNe (dOpN fIxAny 11 (dC (.int 0))) (dIm (dLst dNil))))) (dSeq (dAsg 13 (dOp fAddAny (dIm (dLst (dCons (dSl fSlAny (dOpN fIxAny 11 (dC (.int 0))) (dPart (dC (.int 1))) dNoPart) dNil))) (dSlN fSlAny 11 (dPart (dC (.int 1))) dNoPart)))
    (dRet (dIm (dCall m__law_alike [] (dConsR (dCall m_is_none [] (dConsR (dEx (dVar 2)) (dConsR (dEx (dVar 7)) (dConsR (dEx (dVar 13)) dNilR)))) (dConsR (dEx (dOp fEq (dSl fSlAny (dOpN fIxAny 11 (dC (.int 0))) (dPart (dC (.int 1))) dNoPart) (dOpN fIxAny 11 (dC (.int 0))))) dNilR)))))) dNext)
    (dRet (dC (.bool true))))))))))))))))
def m__law_singles_told : FS := dFn 16 [0] d__law_singles_told

abbrev s__law_apart_told : Stmt := topS 41
abbrev ps__law_apart_told : List Str := ["bag"]
abbrev N__law_apart_told : List Str := ["bag", "wide", "many", "groups", "count", "number", "k", "told", "error", "some", "sizes", "room", "rows"]
def d__law_apart_told : DS :=
    (dSeq (dPar 1 2 (dCons (dOp fAddAny (dC (.int 1)) (dIm (dCall m__law_take [] (dConsR (dAt 0) (dConsR (dEx (dC (.int 6))) dNilR))))) (dCons (dOp fAddAny (dC (.int 1)) (dIm (dCall m__law_take [] (dConsR (dAt 0) (dConsR (dEx (dC (.int 7))) dNilR))))) dNil)))
    (dSeq (dAsg 3 (dIm (dLc (dRng1 (dVar 2)) (dName 6) dYes (dTup (dCons (dC (.int 5)) (dCons (dOp fAddAny (dC (.int 6)) (dVw 6)) (dCons (dC (.int 1)) dNil)))) [6])))
    (dSeq (dAsgG (dTup (dCons (dC (.int 1)) (dCons (dC .none) dNil))) (dGTup 2 (dGCons (dName 4) (dGCons (dName 5) dGNil))))
    (dSeq (dFor (dRng1 (dOp fMin2 (dVar 2) (dVw 1))) (dName 6) (dSeq (dAsg 4 (dOpN fMulAny 4 (dOpN fSub 1 (dVw 6))))
    (dAsg 5 (dIf (dAnd (dTest (dOpN fGt 4 (dC (.int 400)))) (dTest (dOpN fIs 5 (dC .none)))) (dOpN fAddAny 6 (dC (.int 1))) (dVar 5)))))
    (dSeq (dTryAs [13] (fun c => decide (c = 13)) 8 (dTryX (xCall x_laid [] (dConsR (dEx (dOp fMulAny (dIm (dLst (dCons (dC (.int 0)) dNil))) (dVw 1))) (dConsR (dEx (dVar 3)) dNilR))) (dAsg 7 (dIm (dCall m_laid [] (dConsR (dEx (dOp fMulAny (dIm (dLst (dCons (dC (.int 0)) dNil))) (dVw 1))) (dConsR (dEx (dVar 3)) dNilR)))))) (dSuF 13 (fun su_d => (dRet (dOp fEq (dC su_d) (dVw 5))))))
    (dSeq (dIfS (dTest (dOpN fIsNot 5 (dC .none))) (dRet (dC (.bool false))) dNext)
    (dSeq (dIfS (dTest (dOpN fLe 2 (dVw 1))) (dSeq (dAsg 9 (dIm (dLc (dRng1 (dVar 1)) (dName 11) (dTest (dOpN fIn 11 (dOpN fIxAny 7 (dC (.int 1))))) (dVar 11) [11])))
    (dRet (dAndV (dOp fEq (dOpN fIxAny 7 (dC (.int 0))) (dC (.str "laid"))) (dOp fEq (dUn fSortI (dOpN fIxAny 7 (dC (.int 1)))) (dVw 9))))) dNext)
    (dSeq (dParOI 10 4 (dLst dNil) (dC (.int 1)))
    (dSeq (dFor (dRng1 (dVar 1)) (dName 6) (dSeq (dAsg 4 (dOpN fMulAny 4 (dOpN fSub 1 (dVw 6))))
    (dApp 10 (dVar 4))))
    (dRet (dAndV (dOp fEq (dOpN fIxAny 7 (dC (.int 0))) (dC (.str "none"))) (dOp fEq (dIm (dLc (dItL (dOpN fIxAny 7 (dC (.int 1)))) (dName 12) dYes (dUn fLenAny (dVw 12)) [12])) (dOpN fAddAny 10 (dIm (dLst (dCons (dC (.int 0)) dNil))))))))))))))))
def m__law_apart_told : FS := dFn 13 [0] d__law_apart_told

abbrev s__law_wides_told : Stmt := topS 42
abbrev ps__law_wides_told : List Str := ["bag"]
abbrev N__law_wides_told : List Str := ["bag", "nights", "night", "groups", "most", "some", "told", "row", "room", "at", "there", "mine", "k", "many"]
def d__law_wides_told : DS :=
    (dSeq (dAsgO 1 (dLst dNil))
    (dSeq (dFor (dRng1 (dOp fAddAny (dC (.int 1)) (dIm (dCall m__law_take [] (dConsR (dAt 0) (dConsR (dEx (dC (.int 4))) dNilR)))))) (dName 2) (dApp 1 (dIm (dLc (dRng1 (dOp fAddAny (dC (.int 1)) (dIm (dCall m__law_take [] (dConsR (dAt 0) (dConsR (dEx (dC (.int 3))) dNilR)))))) (dName 12) dYes (dOp fAddAny (dC (.int 1)) (dIm (dCall m__law_take [] (dConsR (dAt 0) (dConsR (dEx (dC (.int 3))) dNilR))))) [12]))))
    (dSeq (dParOI 3 4 (dLst dNil) (dUn fMaxA (dIm (dLc (dItL (dFz 1)) (dName 5) dYes (dUn fSum (dVw 5)) [5]))))
    (dSeq (dFor (dEnum (dFz 1)) (dGTup 2 (dGCons (dName 2) (dGCons (dName 5) dGNil))) (dExt 3 (dIm (dLc (dItL (dVar 5)) (dName 13) dYes (dTup (dCons (dOp fMulAny (dC (.int 2)) (dVw 2)) (dCons (dOp fAddAny (dOp fMulAny (dC (.int 2)) (dVw 2)) (dC (.int 2))) (dCons (dVar 13) dNil)))) [13]))))
    (dSeq (dAsg 3 (dIm (dCall m__law_mixed [] (dConsR (dAt 0) (dConsR (dEx (dFz 3)) dNilR)))))
    (dSeq (dAsg 6 (dIm (dCall m_least_wide [] (dConsR (dEx (dFz 3)) dNilR))))
    (dSeq (dIfS (dTest (dOpN fGt 4 (dC (.int 6)))) (dRet (dAndV (dOp fEq (dOpN fIxAny 6 (dC (.int 0))) (dC (.str "none"))) (dOp fEq (dOp fIxAny (dOpN fIxAny 6 (dC (.int 1))) (dUn fNeg (dC (.int 1)))) (dIm (dLst dNil))))) dNext)
    (dSeq (dIfS (dOr (dTest (dOp fNe (dSlN fSlAny 6 dNoPart (dPart (dC (.int 2)))) (dTup (dCons (dC (.str "wide")) (dCons (dVar 4) dNil))))) (dNot (dTest (dIm (dCall m__law_alike [] (dConsR (dCall m_is_laid [] (dConsR (dEx (dOp fMulAny (dIm (dLst (dCons (dC (.int 0)) dNil))) (dVw 4))) (dConsR (dEx (dFz 3)) (dConsR (dEx (dOpN fIxAny 6 (dC (.int 2)))) dNilR)))) (dConsR (dEx (dC (.bool true))) dNilR))))))) (dRet (dC (.bool false))) dNext)
    (dSeq (dIfS (dAnd (dTest (dOpN fEq 4 (dC (.int 1)))) (dTest (dOp fNe (dOpN fIxAny 6 (dC (.int 3))) (dIm (dLst dNil))))) (dRet (dC (.bool false))) dNext)
    (dSeq (dIfS (dAnd (dTest (dOpN fGt 4 (dC (.int 1)))) (dNot (dTest (dIm (dCall m__law_alike [] (dConsR (dCall m_is_none [] (dConsR (dEx (dOp fMulAny (dIm (dLst (dCons (dC (.int 0)) dNil))) (dOpN fSub 4 (dC (.int 1))))) (dConsR (dEx (dFz 3)) (dConsR (dEx (dOpN fIxAny 6 (dC (.int 3)))) dNilR)))) (dConsR (dEx (dC (.bool true))) dNilR))))))) (dRet (dC (.bool false))) dNext)
    (dSeq (dAsg 2 (dIm (dCall m__law_take [] (dConsR (dAt 0) (dConsR (dEx (dOp fAddAny (dOp fMulAny (dC (.int 2)) (dUn fLenAny (dVw 1))) (dC (.int 2)))) dNilR)))))
    (dSeq (dAsg 7 (dIm (dCall m_row_at [] (dConsR (dEx (dVar 4)) (dConsR (dEx (dFz 3)) (dConsR (dEx (dOpN fIxAny 6 (dC (.int 2)))) (dConsR (dEx (dVar 2)) dNilR)))))))
    (dSeq (dFor (dEnum (dVar 7)) (dGTup 2 (dGCons (dName 8) (dGCons (dName 9) dGNil))) (dSeq (dAsg 10 (dIm (dLc (dRng1 (dUn fLenAny (dVw 3))) (dName 12) (dTest (dOp fEq (dOp fDivB (dOp fIxAny (dOpN fIxAny 3 (dVw 12)) (dC (.int 0))) (dC (.int 2))) (dOpN fDivB 2 (dC (.int 2))))) (dVar 12) [12])))
    (dSeq (dAsg 11 (dIm (dLc (dItL (dVar 10)) (dName 12) (dAnd (dTest (dOp fLe (dOp fIxAny (dOpN fIxAny 6 (dC (.int 2))) (dVw 12)) (dVw 8))) (dTest (dOpN fLt 8 (dOp fAddAny (dOp fIxAny (dOpN fIxAny 6 (dC (.int 2))) (dVw 12)) (dOp fIxAny (dOpN fIxAny 3 (dVw 12)) (dC (.int 2))))))) (dVar 12) [12])))
    (dIfS (dTest (dOpN fNe 9 (dIf (dTest (dOpN fNe 11 (dIm (dLst dNil)))) (dOpN fIxAny 11 (dC (.int 0))) (dC .none)))) (dRet (dC (.bool false))) dNext))))
    (dRet (dAndV (dOp fEq (dUn fLenAny (dVw 7)) (dVw 4)) (dOp fEq (dIm (dCall m_least_wide [] (dConsR (dLst dNil) dNilR))) (dTup (dCons (dC (.str "wide")) (dCons (dC (.int 0)) (dCons (dIm (dLst dNil)) (dCons (dIm (dLst dNil)) dNil)))))))))))))))))))))
def m__law_wides_told : FS := dFn 14 [0] d__law_wides_told

abbrev s_law : Stmt := topS 43
abbrev ps_law : List Str := ["script"]
abbrev N_law : List Str := ["script", "bag", "lap"]
def d_law : DS :=
    (dSeq (dAsgO 1 (dCall m__law_bag [] (dConsR (dAt 0) dNilR)))
    (dSeq (dFor (dRng1 (dC (.int 3))) (dName 2) (dIfS (dOr (dNot (dTest (dIm (dCall m__law_singles_told [] (dConsR (dAt 1) dNilR))))) (dOr (dNot (dTest (dIm (dCall m__law_apart_told [] (dConsR (dAt 1) dNilR))))) (dNot (dTest (dIm (dCall m__law_wides_told [] (dConsR (dAt 1) dNilR))))))) (dRet (dC (.bool false))) dNext))
    (dRet (dIm (dCall m__law_alike [] (dConsR (dCall m_laid [] (dConsR (dLst (dCons (dC (.int 0)) (dCons (dC (.int 400)) dNil))) (dConsR (dLst dNil) dNilR))) (dConsR (dEx (dTup (dCons (dC (.str "laid")) (dCons (dIm (dLst dNil)) dNil)))) dNilR)))))))
def m_law : FS := dFn 3 [] d_law
end K05
end

set_option Elab.async false
set_option linter.all false
set_option maxRecDepth 100000
set_option maxHeartbeats 4000000

namespace K05
open PySem L2 Evl DL
structure Txt (mg : Str → Option Value) : Prop where
  abs : mg "abs" = none
  bool : mg "bool" = none
  dict : mg "dict" = none
  enumerate : mg "enumerate" = none
  int : mg "int" = none
  isinstance : mg "isinstance" = none
  len : mg "len" = none
  list : mg "list" = none
  max : mg "max" = none
  min : mg "min" = none
  range : mg "range" = none
  repr : mg "repr" = none
  sorted : mg "sorted" = none
  sum : mg "sum" = none
  tuple : mg "tuple" = none
  g_MOST_ROOMS : ∃ t, mg "MOST_ROOMS" = some (.int 6 t)
  g_MOST_ROWS : ∃ t, mg "MOST_ROWS" = some (.int 400 t)
  g_NIGHTS : ∃ t, mg "NIGHTS" = some (.int 400 t)
section
variable {P : Program} {w : World} {K : PySem.W.Frag} {mg : Str → Option Value} {base : Heap} {cl : Nat → Addr}
abbrev si_NoWish : Stmt := inClass (topS 2) 0
theorem sci_NoWish : FnScope ["self", "at"] ["self", "at"] (defScope si_NoWish) := ⟨rfl, rfl, rfl, by decide +kernel, rfl, by decide +kernel, by decide +kernel⟩
theorem xc_NoWish {C C0 : Addr} (R : XcRaw K mg "NoWish" C "at" si_NoWish "NoWish.__init__") (B : BaseC K C0) (h0 : mg "InnError" = some (.ref C0)) : XcAt P w K mg base "NoWish" C "at" := by
  obtain ⟨h1, h2, h3, fI, fd, h4, h5, F⟩ := R
  refine ⟨h1, h2, h3, fI, fd, h4, h5, F.ok sci_NoWish (fun vs H Q E h => xi_len h) (fun cdv A outer s H vs Q E hr h => ⟨_, pss_cons (ps_expr (pe_oinit B (by rfl) h0 (pa_cons (pv 0) (pa_cons pe_str pa_nil)))) (pss_one (ps_ost (pv 0) (pv 1))), xi_reads h⟩), F.binds (ps := ["self", "at"]) fun _ _ _ _ _ _ us hl => match us, hl with | [_, _], _ => rfl⟩
abbrev si_TooMany : Stmt := inClass (topS 3) 0
theorem sci_TooMany : FnScope ["self", "number"] ["self", "number"] (defScope si_TooMany) := ⟨rfl, rfl, rfl, by decide +kernel, rfl, by decide +kernel, by decide +kernel⟩
theorem xc_TooMany {C C0 : Addr} (R : XcRaw K mg "TooMany" C "number" si_TooMany "TooMany.__init__") (B : BaseC K C0) (h0 : mg "InnError" = some (.ref C0)) : XcAt P w K mg base "TooMany" C "number" := by
  obtain ⟨h1, h2, h3, fI, fd, h4, h5, F⟩ := R
  refine ⟨h1, h2, h3, fI, fd, h4, h5, F.ok sci_TooMany (fun vs H Q E h => xi_len h) (fun cdv A outer s H vs Q E hr h => ⟨_, pss_cons (ps_expr (pe_oinit B (by rfl) h0 (pa_cons (pv 0) (pa_cons pe_str pa_nil)))) (pss_one (ps_ost (pv 0) (pv 1))), xi_reads h⟩), F.binds (ps := ["self", "number"]) fun _ _ _ _ _ _ us hl => match us, hl with | [_, _], _ => rfl⟩
theorem sc_is_whole : FnScope N_is_whole ps_is_whole (defScope s_is_whole) := ⟨rfl, rfl, rfl, by decide +kernel, rfl, by decide +kernel, by decide +kernel⟩
theorem fn_is_whole (D : DefAt K mg "is_whole" s_is_whole) (T : Txt mg) : FnAt P w K mg base 1 "is_whole" ps_is_whole [] (toSp cl K 1 m_is_whole) := by
  refine fn_at (k := 0) D sc_is_whole rfl rfl (fun _ _ _ _ _ _ us hl => match us, hl with | [_], _ => rfl) (fun f cdv A outer s H E hr => ?_)
  refine ⟨_, (pss_one (ps_ret (pe_and (pe_callB (r := rIsi K) call_isi (by rfl) T.isinstance (by decide +kernel) (pa_cons (pv 0) (pa_cons (pe_bltn (v := .ty "int") (by rfl) T.int (by decide +kernel) rfl) pa_nil))) (pe_one (pe_not (pe_callB (r := rIsi K) call_isi (by rfl) T.isinstance (by decide +kernel) (pa_cons (pv 0) (pa_cons (pe_bltn (v := .ty "bool") (by rfl) T.bool (by decide +kernel) rfl) pa_nil)))))))), ?_⟩
  exact (ss_ret (sd_andV (sd_isi (sv_vw 0)) (sd_notV (sd_isi (sv_vw 0)))))

theorem sc_holds : FnScope N_holds ps_holds (defScope s_holds) := ⟨rfl, rfl, rfl, by decide +kernel, rfl, by decide +kernel, by decide +kernel⟩
theorem fn_holds (D : DefAt K mg "holds" s_holds) (T : Txt mg) : FnAt P w K mg base 1 "holds" ps_holds [] (toSp cl K 2 m_holds) := by
  refine fn_at (k := 0) D sc_holds rfl rfl (fun _ _ _ _ _ _ us hl => match us, hl with | [_, _], _ => rfl) (fun f cdv A outer s H E hr => ?_)
  refine ⟨_, (pss_one (ps_ret (pe_chain op_le op_lt (pe_ix (r := rIx K) ix_seq (pv 0) pe_int (fun _ _ => rfl)) (pv 1) (pe_ix (r := rIx K) ix_seq (pv 0) pe_int (fun _ _ => rfl))))), ?_⟩
  exact (ss_ret (sd_chain rd_le rd_lt (sd_opN rd_ixAny (sv_of (sd_int _))) (sd_var 1) (sv_of (sd_opN rd_ixAny (sv_of (sd_int _))))))

theorem sc_shared : FnScope N_shared ps_shared (defScope s_shared) := ⟨rfl, rfl, rfl, by decide +kernel, rfl, by decide +kernel, by decide +kernel⟩
theorem fn_shared (D : DefAt K mg "shared" s_shared) (T : Txt mg) : FnAt P w K mg base 1 "shared" ps_shared [] (toSp cl K 2 m_shared) := by
  refine fn_at (k := 0) D sc_shared rfl rfl (fun _ _ _ _ _ _ us hl => match us, hl with | [_, _], _ => rfl) (fun f cdv A outer s H E hr => ?_)
  refine ⟨_, (pss_cons (ps_set (i := 2) sc_shared.nd rfl (Or.inl rfl) (pe_callB (call_max2 rfl) (by rfl) T.max (by decide +kernel) (pa_cons (pe_ix (r := rIx K) ix_seq (pv 0) pe_int (fun _ _ => rfl)) (pa_cons (pe_ix (r := rIx K) ix_seq (pv 1) pe_int (fun _ _ => rfl)) pa_nil))))
    (pss_cons (ps_set (i := 3) sc_shared.nd rfl (Or.inl rfl) (pe_callB (call_min2 rfl) (by rfl) T.min (by decide +kernel) (pa_cons (pe_ix (r := rIx K) ix_seq (pv 0) pe_int (fun _ _ => rfl)) (pa_cons (pe_ix (r := rIx K) ix_seq (pv 1) pe_int (fun _ _ => rfl)) pa_nil))))
    (pss_cons (ps_if (pt_cmpR op_lt (pv 2) (pv 3) (nomark _)) (pss_one (ps_ret (pe_tup (pa_cons (pv 2) (pa_cons (pv 3) pa_nil))))) pss_nil)
    (pss_one (ps_ret pe_non))))), ?_⟩
  exact (ss_seq (ss_asg (sd_cb2 rc_max2 (sd_opN rd_ixAny (sv_of (sd_int _))) (sv_of (sd_opN rd_ixAny (sv_of (sd_int _))))) rfl)
    (ss_seq (ss_asg (sd_cb2 rc_min2 (sd_opN rd_ixAny (sv_of (sd_int _))) (sv_of (sd_opN rd_ixAny (sv_of (sd_int _))))) rfl)
    (ss_seq (ss_if (st_test (sd_opN rd_lt (sv_vw 3))) (ss_ret (sd_tup (sa_cons (sd_var 2) (sa_cons (sd_var 3) sa_nil)))) ss_next)
    (ss_ret sd_non))))

theorem sc_in_turn : FnScope N_in_turn ps_in_turn (defScope s_in_turn) := ⟨rfl, rfl, rfl, by decide +kernel, rfl, by decide +kernel, by decide +kernel⟩
theorem fn_in_turn (D : DefAt K mg "in_turn" s_in_turn) (T : Txt mg) : FnAt P w K mg base 1 "in_turn" ps_in_turn [] (toSp cl K 1 m_in_turn) := by
  refine fn_at (k := 0) D sc_in_turn rfl rfl (fun _ _ _ _ _ _ us hl => match us, hl with | [_], _ => rfl) (fun f cdv A outer s H E hr => ?_)
  refine ⟨_, (pss_one (ps_ret (pe_lc (own := [("first", 2), ("at", 1)]) rfl sc_in_turn.nd (pi_listK (K := K) (pe_callB (r := rSortedPO K) cr_sortedPO (by rfl) T.sorted (by decide +kernel) (pa_cons (pe_lc (own := [("at", 1)]) rfl sc_in_turn.nd (pi_range1 (by rfl) T.range (pa_cons (pe_callB (r := rLenAny K) call_len (by rfl) T.len PySem.boot_len (pa_cons (pv 0) pa_nil)) pa_nil)) (blkOk_by (N := N_in_turn) (sc := defScope s_in_turn) (by decide +kernel)) (fun _ _ _ _ _ => (pg_name (i := 1) sc_in_turn.nd rfl (by first | exact Or.inl rfl | exact Or.inr rfl))) (fun _ _ _ _ _ => pts_nil) (fun _ _ _ _ _ => (pe_tup (pa_cons (pe_ix (r := rIx K) ix_seq (pe_ix (r := rIx K) ix_seq (pv 0) (pv 1) (fun _ _ => rfl)) pe_int (fun _ _ => rfl)) (pa_cons (pv 1) pa_nil))))) pa_nil))) (blkOk_by (N := N_in_turn) (sc := defScope s_in_turn) (by decide +kernel)) (fun _ _ _ _ _ => (pg_tupK (K := K) (n := 2) (pgs_cons (pg_name (i := 2) sc_in_turn.nd rfl (by first | exact Or.inl rfl | exact Or.inr rfl)) (pgs_cons (pg_name (i := 1) sc_in_turn.nd rfl (by first | exact Or.inl rfl | exact Or.inr rfl)) pgs_nil)))) (fun _ _ _ _ _ => pts_nil) (fun _ _ _ _ _ => (pv 1))))), ?_⟩
  exact (ss_ret (sd_im (se_lc (sl_list (sd_cb1 rc_sortP (sv_of (sd_im (se_lc (sl_rng1 (sd_cb1 rc_lenAny (sv_vw 0))) (sg_name 1) st_yes (sd_tup (sa_cons (sd_op rd_ixAny (sd_opN rd_ixAny (sv_vw 1)) (sv_of (sd_int _))) (sa_cons (sd_var 1) sa_nil)))))))) (sg_tup (sgs_cons (sg_name 2) (sgs_cons (sg_name 1) sgs_nil))) st_yes (sd_var 1))))

theorem sc_row_behind : FnScope N_row_behind ps_row_behind (defScope s_row_behind) := ⟨rfl, rfl, rfl, by decide +kernel, rfl, by decide +kernel, by decide +kernel⟩
theorem fn_row_behind (D : DefAt K mg "row_behind" s_row_behind) (T : Txt mg) : FnAt P w K mg base 1 "row_behind" ps_row_behind [] (toSp cl K 3 m_row_behind) := by
  refine fn_at (k := 0) D sc_row_behind rfl rfl (fun _ _ _ _ _ _ us hl => match us, hl with | [_, _, _], _ => rfl) (fun f cdv A outer s H E hr => ?_)
  refine ⟨_, (pss_cons (ps_asg (pv 1) (pg_tupK (K := K) (n := 3) (pgs_cons (pg_name (i := 3) sc_row_behind.nd rfl (by first | exact Or.inl rfl | exact Or.inr rfl)) (pgs_cons (pg_name (i := 4) sc_row_behind.nd rfl (by first | exact Or.inl rfl | exact Or.inr rfl)) (pgs_cons (pg_name (i := 5) sc_row_behind.nd rfl (by first | exact Or.inl rfl | exact Or.inr rfl)) pgs_nil)))))
    (pss_cons (ps_if (PW.pt (pw_or (pt_cmpR op_gt (pe_op (r := rAddAny K) op_addAny (pv 2) (pv 5)) (pe_callB (r := rLenAny K) call_len (by rfl) T.len PySem.boot_len (pa_cons (pv 0) pa_nil)) (nomark _)) (pw_or1 (pt_cmpR op_gt (pe_callB (r := rMaxA K) (cr_maxA rfl hr.units) (by rfl) T.max (by decide +kernel) (pa_cons (pe_slice (r := rSlAny K) sl_any (pv 0) (po_some (pv 2)) (po_some (pe_op (r := rAddAny K) op_addAny (pv 2) (pv 5)))) pa_nil)) (pv 3) (nomark _))))) (pss_one (ps_ret pe_non)) pss_nil)
    (pss_cons (ps_set (i := 6) sc_row_behind.nd rfl (Or.inl rfl) (pe_lst pa_nil))
    (pss_cons (ps_for PassesOwn.never rfl (pi_range1 (by rfl) T.range (pa_cons (pe_callB (r := rLenAny K) call_len (by rfl) T.len PySem.boot_len (pa_cons (pv 0) pa_nil)) pa_nil)) (pg_name (i := 7) sc_row_behind.nd rfl (by first | exact Or.inl rfl | exact Or.inr rfl)) (pss_one (ps_if (pt_chain op_le op_lt (pv 2) (pv 7) (pe_op (r := rAddAny K) op_addAny (pv 2) (pv 5))) (pss_one (ps_expr (pe_bmK (K := K) PySem.F.plainAttrs_list PySem.F.slot_list_append PySem.F.type_list_append mt_append (pv 6) (pa_cons (pv 4) pa_nil)))) (pss_one (ps_if (pt_cmpR op_le (pe_ix (r := rIx K) ix_seq (pv 0) (pv 7) (fun _ _ => rfl)) (pv 3) (nomark _)) (pss_one (ps_expr (pe_bmK (K := K) PySem.F.plainAttrs_list PySem.F.slot_list_append PySem.F.type_list_append mt_append (pv 6) (pa_cons pe_int pa_nil)))) (pss_one (ps_expr (pe_bmK (K := K) PySem.F.plainAttrs_list PySem.F.slot_list_append PySem.F.type_list_append mt_append (pv 6) (pa_cons (pe_ix (r := rIx K) ix_seq (pv 0) (pv 7) (fun _ _ => rfl)) pa_nil)))))))))
    (pss_one (ps_ret (pe_callTy call_tuple_any (by rfl) T.tuple (by decide +kernel) (pa_cons (pv 6) pa_nil)))))))), ?_⟩
  exact (ss_seq (ss_asgG (sd_var 1) (sg_tup (sgs_cons (sg_name 3) (sgs_cons (sg_name 4) (sgs_cons (sg_name 5) sgs_nil)))) rfl)
    (ss_seq (ss_if (st_or (st_test (sd_op rd_gt (sd_opN rd_addAny (sv_vw 5)) (sv_of (sd_cb1 rc_lenAny (sv_vw 0))))) (st_test (sd_op rd_gt (sd_cb1 rc_maxA (sv_of (sd_slN rds_any (so_some (sd_var 2)) (so_some (sd_opN rd_addAny (sv_vw 5)))))) (sv_vw 3)))) (ss_ret sd_non) ss_next)
    (ss_seq (ss_asgO (se_lst sa_nil) rfl)
    (ss_seq (ss_for (sl_rng1 (sd_cb1 rc_lenAny (sv_vw 0))) (sg_name 7) (ss_if (st_test (sd_chain rd_le rd_lt (sd_var 2) (sd_var 7) (sv_of (sd_opN rd_addAny (sv_vw 5))))) (ss_app (sd_var 4)) (ss_if (st_test (sd_op rd_le (sd_opN rd_ixAny (sv_vw 7)) (sv_vw 3))) (ss_app (sd_int _)) (ss_app (sd_opN rd_ixAny (sv_vw 7))))) rfl)
    (ss_ret (sd_cb1 rc_tupleOf (sv_vw 6)))))))

theorem sc__law_bag : FnScope N__law_bag ps__law_bag (defScope s__law_bag) := ⟨rfl, rfl, rfl, by decide +kernel, rfl, by decide +kernel, by decide +kernel⟩
theorem fn__law_bag (D : DefAt K mg "_law_bag" s__law_bag) (T : Txt mg) : FnAt P w K mg base 1 "_law_bag" ps__law_bag [] (toSp cl K 1 m__law_bag) := by
  refine fn_at (k := 0) D sc__law_bag rfl rfl (fun _ _ _ _ _ _ us hl => match us, hl with | [_], _ => rfl) (fun f cdv A outer s H E hr => ?_)
  refine ⟨_, (pss_one (ps_ret (pe_lst (pa_cons pe_int (pa_cons pe_int (pa_cons pe_int (pa_cons (pe_lc (own := [("cell", 1)]) rfl sc__law_bag.nd (pi_listK (K := K) (pe_slice (r := rSlAny K) sl_any (pv 0) po_none (po_some pe_int))) (blkOk_by (N := N__law_bag) (sc := defScope s__law_bag) (by decide +kernel)) (fun _ _ _ _ _ => (pg_name (i := 1) sc__law_bag.nd rfl (by first | exact Or.inl rfl | exact Or.inr rfl))) (fun _ _ _ _ _ => pts_nil) (fun _ _ _ _ _ => (pe_callB call_abs (by rfl) T.abs (by decide +kernel) (pa_cons (pv 1) pa_nil)))) pa_nil))))))), ?_⟩
  exact (ss_retE (se_lst (sa_cons (sd_int _) (sa_cons (sd_int _) (sa_cons (sd_int _) (sa_cons (sd_im (se_lc (sl_list (sd_scrSl so_none (so_some (sd_int _)))) (sg_name 1) st_yes (sd_cb1 rc_abs (sv_vw 1)))) sa_nil))))))

theorem sc__law_take : FnScope N__law_take ps__law_take (defScope s__law_take) := ⟨rfl, rfl, rfl, by decide +kernel, rfl, by decide +kernel, by decide +kernel⟩
theorem fn__law_take (D : DefAt K mg "_law_take" s__law_take) (T : Txt mg) : FnAt P w K mg base 1 "_law_take" ps__law_take [] (toSp cl K 2 m__law_take) := by
  refine fn_at (k := 0) D sc__law_take rfl rfl (fun _ _ _ _ _ _ us hl => match us, hl with | [_, _], _ => rfl) (fun f cdv A outer s H E hr => ?_)
  refine ⟨_, (pss_cons (ps_if (pt_cmpR (r := rEqB K) (op_eqB hr.units) (pe_ix (r := rIx K) ix_seq (pv 0) pe_int (fun _ _ => rfl)) pe_int (nomark _)) (pss_cons (ps_set (i := 2) sc__law_take.nd rfl (Or.inl rfl) pe_int)
    (pss_cons (ps_if (pt_cmpR op_lt (pe_ix (r := rIx K) ix_seq (pv 0) pe_int (fun _ _ => rfl)) (pe_callB (r := rLenAny K) call_len (by rfl) T.len PySem.boot_len (pa_cons (pe_ix (r := rIx K) ix_seq (pv 0) pe_int (fun _ _ => rfl)) pa_nil)) (nomark _)) (pss_cons (ps_set (i := 3) sc__law_take.nd rfl (Or.inl rfl) (pe_ix (r := rIx K) ix_seq (pe_ix (r := rIx K) ix_seq (pv 0) pe_int (fun _ _ => rfl)) (pe_ix (r := rIx K) ix_seq (pv 0) pe_int (fun _ _ => rfl)) (fun _ _ => rfl)))
    (pss_cons (ps_augS (pv 0) pe_int get_list pe_int ip_add set_list)
    (pss_cons (ps_if (pt_cmpR op_ge (pv 3) pe_int (nomark _)) (pss_one (ps_asg (pv 3) (pg_sub (pv 0) pe_int set_list))) pss_nil)
    (pss_one (ps_set (i := 2) sc__law_take.nd rfl (Or.inl rfl) (pe_op (r := rAddAny K) op_addAny (pe_op op_mod (pv 3) pe_int) pe_int)))))) pss_nil)
    (pss_one (ps_asg (pe_op op_mod (pe_op (r := rAddAny K) op_addAny (pe_op op_mulAny (pe_ix (r := rIx K) ix_seq (pv 0) pe_int (fun _ _ => rfl)) pe_int) (pv 2)) pe_int) (pg_sub (pv 0) pe_int set_list))))) pss_nil)
    (pss_cons (ps_if (pt_cmpR op_gt (pe_ix (r := rIx K) ix_seq (pv 0) pe_int (fun _ _ => rfl)) pe_int (nomark _)) (pss_cons (ps_set (i := 4) sc__law_take.nd rfl (Or.inl rfl) (pe_op op_mod (pe_ix (r := rIx K) ix_seq (pv 0) pe_int (fun _ _ => rfl)) (pv 1)))
    (pss_cons (ps_asg (pe_op op_fdivW (pe_ix (r := rIx K) ix_seq (pv 0) pe_int (fun _ _ => rfl)) (pv 1)) (pg_sub (pv 0) pe_int set_list))
    (pss_one (ps_ret (pv 4))))) pss_nil)
    (pss_cons (ps_set (i := 5) sc__law_take.nd rfl (Or.inl rfl) (pe_op op_mod (pe_op op_mulAny (pe_ix (r := rIx K) ix_seq (pv 0) pe_int (fun _ _ => rfl)) pe_int) pe_int))
    (pss_cons (ps_set (i := 6) sc__law_take.nd rfl (Or.inl rfl) (pe_op op_mod (pe_op op_mulAny (pv 5) pe_int) pe_int))
    (pss_cons (ps_if (pt_cmpR op_gt (pv 1) pe_int (nomark _)) (pss_one (ps_ret (pe_op op_mod (pe_op (r := rAddAny K) op_addAny (pe_op op_mulAny (pv 6) pe_int) (pv 5)) (pv 1)))) pss_nil)
    (pss_one (ps_ret (pe_op op_mod (pe_op op_fdivW (pv 6) pe_int) (pv 1))))))))), ?_⟩
  exact (ss_seq (ss_if (st_test (sd_op rd_eq (sd_opN rd_ixAny (sv_of (sd_int _))) (sv_of (sd_int _)))) (ss_seq (ss_asg (sd_int _) rfl)
    (ss_seq (ss_if (st_test (sd_op rd_lt (sd_opN rd_ixAny (sv_of (sd_int _))) (sv_of (sd_cb1 rc_lenAny (sv_of (sd_opN rd_ixAny (sv_of (sd_int _)))))))) (ss_seq (ss_asg (sd_op rd_ixAny (sd_opN rd_ixAny (sv_of (sd_int _))) (sv_of (sd_opN rd_ixAny (sv_of (sd_int _))))) rfl)
    (ss_seq (ss_augL (sd_int _) (sd_int _))
    (ss_seq (ss_if (st_test (sd_opN rd_ge (sv_of (sd_int _)))) (ss_set (sd_var 3) (sd_int _)) ss_next)
    (ss_asg (sd_op rd_addAny (sd_opN rd_mod (sv_of (sd_int _))) (sv_of (sd_int _))) rfl)))) ss_next)
    (ss_set (sd_op rd_mod (sd_op rd_addAny (sd_op rd_mulAny (sd_opN rd_ixAny (sv_of (sd_int _))) (sv_of (sd_int _))) (sv_vw 2)) (sv_of (sd_int _))) (sd_int _)))) ss_next)
    (ss_seq (ss_if (st_test (sd_op rd_gt (sd_opN rd_ixAny (sv_of (sd_int _))) (sv_of (sd_int _)))) (ss_seq (ss_asg (sd_op rd_mod (sd_opN rd_ixAny (sv_of (sd_int _))) (sv_vw 1)) rfl)
    (ss_seq (ss_set (sd_op rd_divB (sd_opN rd_ixAny (sv_of (sd_int _))) (sv_vw 1)) (sd_int _))
    (ss_ret (sd_var 4)))) ss_next)
    (ss_seq (ss_asg (sd_op rd_mod (sd_op rd_mulAny (sd_opN rd_ixAny (sv_of (sd_int _))) (sv_of (sd_int _))) (sv_of (sd_int _))) rfl)
    (ss_seq (ss_asg (sd_op rd_mod (sd_opN rd_mulAny (sv_of (sd_int _))) (sv_of (sd_int _))) rfl)
    (ss_seq (ss_if (st_test (sd_opN rd_gt (sv_of (sd_int _)))) (ss_ret (sd_op rd_mod (sd_op rd_addAny (sd_opN rd_mulAny (sv_of (sd_int _))) (sv_vw 5)) (sv_vw 1))) ss_next)
    (ss_ret (sd_op rd_mod (sd_opN rd_divB (sv_of (sd_int _))) (sv_vw 1))))))))

theorem sc__law_alike : FnScope N__law_alike ps__law_alike (defScope s__law_alike) := ⟨rfl, rfl, rfl, by decide +kernel, rfl, by decide +kernel, by decide +kernel⟩
theorem fn__law_alike (D : DefAt K mg "_law_alike" s__law_alike) (T : Txt mg) : FnAt P w K mg base 1 "_law_alike" ps__law_alike [] (toSp cl K 2 m__law_alike) := by
  refine fn_at (k := 0) D sc__law_alike rfl rfl (fun _ _ _ _ _ _ us hl => match us, hl with | [_, _], _ => rfl) (fun f cdv A outer s H E hr => ?_)
  refine ⟨_, (pss_one (ps_ret (pe_and (pe_cmpR (r := rEqB K) (op_eqB hr.units) (pv 0) (pv 1) (nomark _)) (pe_one (pe_cmpR (r := rEqB K) (op_eqB hr.units) (pe_callB (r := rRepr K) (cr_repr hr.gd hr.units) (by rfl) T.repr (by decide +kernel) (pa_cons (pv 0) pa_nil)) (pe_callB (r := rRepr K) (cr_repr hr.gd hr.units) (by rfl) T.repr (by decide +kernel) (pa_cons (pv 1) pa_nil)) (nomark _)))))), ?_⟩
  exact (ss_ret (sd_andV (sd_opN rd_eq (sv_vw 1)) (sd_op rd_eq (sd_cb1 rc_reprX (sv_vw 0)) (sv_of (sd_cb1 rc_reprX (sv_vw 1))))))

theorem sc__law_lots : FnScope N__law_lots ps__law_lots (defScope s__law_lots) := ⟨rfl, rfl, rfl, by decide +kernel, rfl, by decide +kernel, by decide +kernel⟩
theorem fn__law_lots (D : DefAt K mg "_law_lots" s__law_lots) (T : Txt mg) : FnAt P w K mg base 1 "_law_lots" ps__law_lots [] (toSp cl K 2 m__law_lots) := by
  refine fn_at (k := 0) D sc__law_lots rfl rfl (fun _ _ _ _ _ _ us hl => match us, hl with | [_, _], _ => rfl) (fun f cdv A outer s H E hr => ?_)
  refine ⟨_, (pss_cons (ps_set (i := 2) sc__law_lots.nd rfl (Or.inl rfl) (pe_lst (pa_cons (pe_lst pa_nil) pa_nil)))
    (pss_cons (ps_for PassesOwn.never rfl (pi_listK (K := K) (pv 0)) (pg_name (i := 3) sc__law_lots.nd rfl (by first | exact Or.inl rfl | exact Or.inr rfl)) (pss_one (ps_set (i := 2) sc__law_lots.nd rfl (Or.inl rfl) (pe_op (r := rAddAny K) op_addAny (pv 2) (pe_lc (own := [("lot", 4)]) rfl sc__law_lots.nd (pi_listK (K := K) (pv 2)) (blkOk_by (N := N__law_lots) (sc := defScope s__law_lots) (by decide +kernel)) (fun _ _ _ _ _ => (pg_name (i := 4) sc__law_lots.nd rfl (by first | exact Or.inl rfl | exact Or.inr rfl))) (fun _ _ _ _ _ => pts_nil) (fun _ _ _ _ _ => (pe_op (r := rAddAny K) op_addAny (pv 4) (pe_lst (pa_cons (pv 3) pa_nil)))))))))
    (pss_one (ps_ret (pe_lc (own := [("lot", 4)]) rfl sc__law_lots.nd (pi_listK (K := K) (pv 2)) (blkOk_by (N := N__law_lots) (sc := defScope s__law_lots) (by decide +kernel)) (fun _ _ _ _ _ => (pg_name (i := 4) sc__law_lots.nd rfl (by first | exact Or.inl rfl | exact Or.inr rfl))) (fun _ _ _ _ _ => (pts_one (pt_cmpR (r := rEqB K) (op_eqB hr.units) (pe_callB (r := rLenAny K) call_len (by rfl) T.len PySem.boot_len (pa_cons (pv 4) pa_nil)) (pv 1) (nomark _)))) (fun _ _ _ _ _ => (pv 4))))))), ?_⟩
  exact (ss_seq (ss_asg (sd_im (se_lst (sa_cons (sd_im (se_lst sa_nil)) sa_nil))) rfl)
    (ss_seq (ss_for (sl_list (sd_var 0)) (sg_name 3) (ss_asg (sd_opN rd_addAny (sv_of (sd_im (se_lc (sl_list (sd_var 2)) (sg_name 4) st_yes (sd_opN rd_addAny (sv_of (sd_im (se_lst (sa_cons (sd_var 3) sa_nil))))))))) rfl) rfl)
    (ss_ret (sd_im (se_lc (sl_list (sd_var 2)) (sg_name 4) (st_test (sd_op rd_eq (sd_cb1 rc_lenAny (sv_vw 4)) (sv_vw 1))) (sd_var 4))))))

theorem sc_is_stretch : FnScope N_is_stretch ps_is_stretch (defScope s_is_stretch) := ⟨rfl, rfl, rfl, by decide +kernel, rfl, by decide +kernel, by decide +kernel⟩
theorem fn_is_stretch (D : DefAt K mg "is_stretch" s_is_stretch) (T : Txt mg) (h_is_whole : FnAt P w K mg base 1 "is_whole" ps_is_whole [] (toSp cl K 1 m_is_whole)) : FnAt P w K mg base 2 "is_stretch" ps_is_stretch [] (toSp cl K 1 m_is_stretch) := by
  refine fn_at (k := 1) D sc_is_stretch rfl rfl (fun _ _ _ _ _ _ us hl => match us, hl with | [_], _ => rfl) (fun f cdv A outer s H E hr => ?_)
  refine ⟨_, (pss_cons (ps_if (PW.pt (pw_or (pt_not (pt_val (pe_callB (r := rIsi K) call_isi (by rfl) T.isinstance (by decide +kernel) (pa_cons (pv 0) (pa_cons (pe_bltn (v := .ty "tuple") (by rfl) T.tuple (by decide +kernel) rfl) pa_nil))))) (pw_or1 (pt_cmpR (r := rNeB K) (op_neB hr.units) (pe_callB (r := rLenAny K) call_len (by rfl) T.len PySem.boot_len (pa_cons (pv 0) pa_nil)) pe_int (nomark _))))) (pss_one (ps_ret pe_bl)) pss_nil)
    (pss_cons (ps_if (PW.pt (pw_or (pt_not (pt_val (pe_fn h_is_whole (hr.mono (by decide)) (by rfl) (pa_cons (pe_ix (r := rIx K) ix_seq (pv 0) pe_int (fun _ _ => rfl)) pa_nil)))) (pw_or1 (pt_not (pt_val (pe_fn h_is_whole (hr.mono (by decide)) (by rfl) (pa_cons (pe_ix (r := rIx K) ix_seq (pv 0) pe_int (fun _ _ => rfl)) pa_nil))))))) (pss_one (ps_ret pe_bl)) pss_nil)
    (pss_one (ps_ret (pe_chain3 op_le op_lt op_le pe_int (pe_ix (r := rIx K) ix_seq (pv 0) pe_int (fun _ _ => rfl)) (pe_ix (r := rIx K) ix_seq (pv 0) pe_int (fun _ _ => rfl)) (pe_gint (by rfl) T.g_NIGHTS)))))), ?_⟩
  exact (ss_seq (ss_if (st_or (st_not (st_b (sd_isi (sv_vw 0)))) (st_test (sd_op rd_ne (sd_cb1 rc_lenAny (sv_vw 0)) (sv_of (sd_int _))))) (ss_ret (sd_bl _)) ss_next)
    (ss_seq (ss_if (st_or (st_not (st_b (sd_im (se_callL (fun _ => RpAll.nil) (sr_cons (sd_ex (sd_opN rd_ixAny (sv_of (sd_int _)))) sr_nil) (lenR_cons lenR_nil) rfl)))) (st_not (st_b (sd_im (se_callL (fun _ => RpAll.nil) (sr_cons (sd_ex (sd_opN rd_ixAny (sv_of (sd_int _)))) sr_nil) (lenR_cons lenR_nil) rfl))))) (ss_ret (sd_bl _)) ss_next)
    (ss_ret (sd_chain3 rd_le rd_lt rd_le (sd_int _) (sd_opN rd_ixAny (sv_of (sd_int _))) (sd_opN rd_ixAny (sv_of (sd_int _))) (sv_of (sd_int _))))))

theorem sc_meets : FnScope N_meets ps_meets (defScope s_meets) := ⟨rfl, rfl, rfl, by decide +kernel, rfl, by decide +kernel, by decide +kernel⟩
theorem fn_meets (D : DefAt K mg "meets" s_meets) (T : Txt mg) (h_shared : FnAt P w K mg base 1 "shared" ps_shared [] (toSp cl K 2 m_shared)) : FnAt P w K mg base 2 "meets" ps_meets [] (toSp cl K 2 m_meets) := by
  refine fn_at (k := 1) D sc_meets rfl rfl (fun _ _ _ _ _ _ us hl => match us, hl with | [_, _], _ => rfl) (fun f cdv A outer s H E hr => ?_)
  refine ⟨_, (pss_one (ps_ret (pe_cmpR op_notN (pe_fn h_shared (hr.mono (by decide)) (by rfl) (pa_cons (pv 0) (pa_cons (pv 1) pa_nil))) pe_non (nomark _)))), ?_⟩
  exact (ss_ret (sd_op rd_isNot (sd_im (se_callL (fun _ => RpAll.nil) (sr_cons (sd_ex (sd_var 0)) (sr_cons (sd_ex (sd_var 1)) sr_nil)) (lenR_cons (lenR_cons lenR_nil)) rfl)) (sv_of sd_non)))

theorem sc_rows_behind : FnScope N_rows_behind ps_rows_behind (defScope s_rows_behind) := ⟨rfl, rfl, rfl, by decide +kernel, rfl, by decide +kernel, by decide +kernel⟩
theorem fn_rows_behind (D : DefAt K mg "rows_behind" s_rows_behind) (T : Txt mg) (h_row_behind : FnAt P w K mg base 1 "row_behind" ps_row_behind [] (toSp cl K 3 m_row_behind)) : FnAt P w K mg base 2 "rows_behind" ps_rows_behind [] (toSp cl K 2 m_rows_behind) := by
  refine fn_at (k := 1) D sc_rows_behind rfl rfl (fun _ _ _ _ _ _ us hl => match us, hl with | [_, _], _ => rfl) (fun f cdv A outer s H E hr => ?_)
  refine ⟨_, (pss_cons (ps_set (i := 2) sc_rows_behind.nd rfl (Or.inl rfl) (pe_dnewT))
    (pss_cons (ps_for PassesOwn.never rfl (pi_listK (K := K) (pv 0)) (pg_name (i := 3) sc_rows_behind.nd rfl (by first | exact Or.inl rfl | exact Or.inr rfl)) (pss_one (ps_for PassesOwn.never rfl (pi_range1 (by rfl) T.range (pa_cons (pe_callB (r := rLenAny K) call_len (by rfl) T.len PySem.boot_len (pa_cons (pv 3) pa_nil)) pa_nil)) (pg_name (i := 4) sc_rows_behind.nd rfl (by first | exact Or.inl rfl | exact Or.inr rfl)) (pss_cons (ps_set (i := 5) sc_rows_behind.nd rfl (Or.inl rfl) (pe_fn h_row_behind (hr.mono (by decide)) (by rfl) (pa_cons (pv 3) (pa_cons (pv 1) (pa_cons (pv 4) pa_nil)))))
    (pss_one (ps_if (pt_cmpR op_notN (pv 5) pe_non (nomark _)) (pss_one (ps_dput hr.hu (pv 2) (pv 5) pe_bl rfl)) pss_nil))))))
    (pss_one (ps_ret (pe_callB (cr_sortedDT rfl) (by rfl) T.sorted (by decide +kernel) (pa_cons (pv 2) pa_nil)))))), ?_⟩
  exact (ss_seq (ss_asgO se_newT rfl)
    (ss_seq (ss_for (sl_list (sd_var 0)) (sg_name 3) (ss_for (sl_rng1 (sd_cb1 rc_lenAny (sv_vw 3))) (sg_name 4) (ss_seq (ss_asg (sd_im (se_callL (fun _ => RpAll.nil) (sr_cons (sd_ex (sd_var 3)) (sr_cons (sd_ex (sd_var 1)) (sr_cons (sd_ex (sd_var 4)) sr_nil))) (lenR_cons (lenR_cons (lenR_cons lenR_nil))) rfl)) rfl)
    (ss_if (st_test (sd_opN rd_isNot (sv_of sd_non))) (ss_tput (sd_var 5) (sd_bl _)) ss_next)) rfl) rfl)
    (ss_ret (sd_sortDT 2))))

theorem sc_step_to : FnScope N_step_to ps_step_to (defScope s_step_to) := ⟨rfl, rfl, rfl, by decide +kernel, rfl, by decide +kernel, by decide +kernel⟩
theorem fn_step_to (D : DefAt K mg "step_to" s_step_to) (T : Txt mg) (h_row_behind : FnAt P w K mg base 1 "row_behind" ps_row_behind [] (toSp cl K 3 m_row_behind)) : FnAt P w K mg base 2 "step_to" ps_step_to [] (toSp cl K 3 m_step_to) := by
  refine fn_at (k := 1) D sc_step_to rfl rfl (fun _ _ _ _ _ _ us hl => match us, hl with | [_, _, _], _ => rfl) (fun f cdv A outer s H E hr => ?_)
  refine ⟨_, (pss_cons (ps_for PassesOwn.never rfl (pi_listK (K := K) (pv 0)) (pg_name (i := 3) sc_step_to.nd rfl (by first | exact Or.inl rfl | exact Or.inr rfl)) (pss_one (ps_for PassesOwn.never rfl (pi_range1 (by rfl) T.range (pa_cons (pe_callB (r := rLenAny K) call_len (by rfl) T.len PySem.boot_len (pa_cons (pv 3) pa_nil)) pa_nil)) (pg_name (i := 4) sc_step_to.nd rfl (by first | exact Or.inl rfl | exact Or.inr rfl)) (pss_one (ps_if (pt_cmpR (r := rEqB K) (op_eqB hr.units) (pe_fn h_row_behind (hr.mono (by decide)) (by rfl) (pa_cons (pv 3) (pa_cons (pv 1) (pa_cons (pv 4) pa_nil)))) (pv 2) (nomark _)) (pss_one (ps_ret (pe_tup (pa_cons (pv 3) (pa_cons (pv 4) pa_nil))))) pss_nil)))))
    (pss_one (ps_ret pe_non))), ?_⟩
  exact (ss_seq (ss_for (sl_list (sd_var 0)) (sg_name 3) (ss_for (sl_rng1 (sd_cb1 rc_lenAny (sv_vw 3))) (sg_name 4) (ss_if (st_test (sd_op rd_eq (sd_im (se_callL (fun _ => RpAll.nil) (sr_cons (sd_ex (sd_var 3)) (sr_cons (sd_ex (sd_var 1)) (sr_cons (sd_ex (sd_var 4)) sr_nil))) (lenR_cons (lenR_cons (lenR_cons lenR_nil))) rfl)) (sv_vw 2))) (ss_ret (sd_tup (sa_cons (sd_var 3) (sa_cons (sd_var 4) sa_nil)))) ss_next) rfl) rfl)
    (ss_ret sd_non))

theorem sc_is_place : FnScope N_is_place ps_is_place (defScope s_is_place) := ⟨rfl, rfl, rfl, by decide +kernel, rfl, by decide +kernel, by decide +kernel⟩
theorem fn_is_place (D : DefAt K mg "is_place" s_is_place) (T : Txt mg) (h_is_whole : FnAt P w K mg base 1 "is_whole" ps_is_whole [] (toSp cl K 1 m_is_whole)) : FnAt P w K mg base 2 "is_place" ps_is_place [] (toSp cl K 3 m_is_place) := by
  refine fn_at (k := 1) D sc_is_place rfl rfl (fun _ _ _ _ _ _ us hl => match us, hl with | [_, _, _], _ => rfl) (fun f cdv A outer s H E hr => ?_)
  refine ⟨_, (pss_cons (ps_asg (pv 1) (pg_tupK (K := K) (n := 3) (pgs_cons (pg_name (i := 3) sc_is_place.nd rfl (by first | exact Or.inl rfl | exact Or.inr rfl)) (pgs_cons (pg_name (i := 4) sc_is_place.nd rfl (by first | exact Or.inl rfl | exact Or.inr rfl)) (pgs_cons (pg_name (i := 5) sc_is_place.nd rfl (by first | exact Or.inl rfl | exact Or.inr rfl)) pgs_nil)))))
    (pss_cons (ps_if (PW.pt (pw_or (pt_not (pt_val (pe_fn h_is_whole (hr.mono (by decide)) (by rfl) (pa_cons (pv 2) pa_nil)))) (pw_or1 (pt_not (pt_chain op_le op_le pe_int (pv 2) (pe_op op_sub (pe_callB (r := rLenAny K) call_len (by rfl) T.len PySem.boot_len (pa_cons (pv 0) pa_nil)) (pv 5))))))) (pss_one (ps_ret pe_bl)) pss_nil)
    (pss_one (ps_ret (pe_cmpR op_le (pe_callB (r := rMaxA K) (cr_maxA rfl hr.units) (by rfl) T.max (by decide +kernel) (pa_cons (pe_slice (r := rSlAny K) sl_any (pv 0) (po_some (pv 2)) (po_some (pe_op (r := rAddAny K) op_addAny (pv 2) (pv 5)))) pa_nil)) (pv 3) (nomark _)))))), ?_⟩
  exact (ss_seq (ss_asgG (sd_var 1) (sg_tup (sgs_cons (sg_name 3) (sgs_cons (sg_name 4) (sgs_cons (sg_name 5) sgs_nil)))) rfl)
    (ss_seq (ss_if (st_or (st_not (st_b (sd_im (se_callL (fun _ => RpAll.nil) (sr_cons (sd_ex (sd_var 2)) sr_nil) (lenR_cons lenR_nil) rfl)))) (st_not (st_test (sd_chain rd_le rd_le (sd_int _) (sd_var 2) (sv_of (sd_op rd_sub (sd_cb1 rc_lenAny (sv_vw 0)) (sv_vw 5))))))) (ss_ret (sd_bl _)) ss_next)
    (ss_ret (sd_op rd_le (sd_cb1 rc_maxA (sv_of (sd_slN rds_any (so_some (sd_var 2)) (so_some (sd_opN rd_addAny (sv_vw 5)))))) (sv_vw 3)))))

theorem sc_is_rows : FnScope N_is_rows ps_is_rows (defScope s_is_rows) := ⟨rfl, rfl, rfl, by decide +kernel, rfl, by decide +kernel, by decide +kernel⟩
theorem fn_is_rows (D : DefAt K mg "is_rows" s_is_rows) (T : Txt mg) (h_is_whole : FnAt P w K mg base 1 "is_whole" ps_is_whole [] (toSp cl K 1 m_is_whole)) : FnAt P w K mg base 2 "is_rows" ps_is_rows [] (toSp cl K 2 m_is_rows) := by
  refine fn_at (k := 1) D sc_is_rows rfl rfl (fun _ _ _ _ _ _ us hl => match us, hl with | [_, _], _ => rfl) (fun f cdv A outer s H E hr => ?_)
  refine ⟨_, (pss_cons (ps_if (pt_not (pt_val (pe_callB (r := rIsi K) call_isi (by rfl) T.isinstance (by decide +kernel) (pa_cons (pv 0) (pa_cons (pe_bltn (v := .ty "list") (by rfl) T.list (by decide +kernel) rfl) pa_nil))))) (pss_one (ps_ret pe_bl)) pss_nil)
    (pss_cons (ps_for PassesOwn.never rfl (pi_listK (K := K) (pv 0)) (pg_name (i := 2) sc_is_rows.nd rfl (by first | exact Or.inl rfl | exact Or.inr rfl)) (pss_cons (ps_if (PW.pt (pw_or (pt_not (pt_val (pe_callB (r := rIsi K) call_isi (by rfl) T.isinstance (by decide +kernel) (pa_cons (pv 2) (pa_cons (pe_bltn (v := .ty "tuple") (by rfl) T.tuple (by decide +kernel) rfl) pa_nil))))) (pw_or1 (pt_cmpR (r := rNeB K) (op_neB hr.units) (pe_callB (r := rLenAny K) call_len (by rfl) T.len PySem.boot_len (pa_cons (pv 2) pa_nil)) (pv 1) (nomark _))))) (pss_one (ps_ret pe_bl)) pss_nil)
    (pss_one (ps_for PassesOwn.never rfl (pi_tupK (K := K) (pv 2)) (pg_name (i := 3) sc_is_rows.nd rfl (by first | exact Or.inl rfl | exact Or.inr rfl)) (pss_one (ps_if (pt_not (pt_val (pe_fn h_is_whole (hr.mono (by decide)) (by rfl) (pa_cons (pv 3) pa_nil)))) (pss_one (ps_ret pe_bl)) pss_nil))))))
    (pss_one (ps_ret pe_bl)))), ?_⟩
  exact (ss_seq (ss_if (st_not (st_b (sd_isi (sv_vw 0)))) (ss_ret (sd_bl _)) ss_next)
    (ss_seq (ss_for (sl_list (sd_var 0)) (sg_name 2) (ss_seq (ss_if (st_or (st_not (st_b (sd_isi (sv_vw 2)))) (st_test (sd_op rd_ne (sd_cb1 rc_lenAny (sv_vw 2)) (sv_vw 1)))) (ss_ret (sd_bl _)) ss_next)
    (ss_for (sl_tup (sd_var 2)) (sg_name 3) (ss_if (st_not (st_b (sd_im (se_callL (fun _ => RpAll.nil) (sr_cons (sd_ex (sd_var 3)) sr_nil) (lenR_cons lenR_nil) rfl)))) (ss_ret (sd_bl _)) ss_next) rfl)) rfl)
    (ss_ret (sd_bl _))))

theorem sc_row_at : FnScope N_row_at ps_row_at (defScope s_row_at) := ⟨rfl, rfl, rfl, by decide +kernel, rfl, by decide +kernel, by decide +kernel⟩
theorem fn_row_at (D : DefAt K mg "row_at" s_row_at) (T : Txt mg) (h_holds : FnAt P w K mg base 1 "holds" ps_holds [] (toSp cl K 2 m_holds)) : FnAt P w K mg base 2 "row_at" ps_row_at [] (toSp cl K 4 m_row_at) := by
  refine fn_at (k := 1) D sc_row_at rfl rfl (fun _ _ _ _ _ _ us hl => match us, hl with | [_, _, _, _], _ => rfl) (fun f cdv A outer s H E hr => ?_)
  refine ⟨_, (pss_cons (ps_set (i := 4) sc_row_at.nd rfl (Or.inl rfl) (pe_op op_mulAny (pe_lst (pa_cons pe_non pa_nil)) (pv 0)))
    (pss_cons (ps_for PassesOwn.never rfl (pi_range1 (by rfl) T.range (pa_cons (pe_callB (r := rLenAny K) call_len (by rfl) T.len PySem.boot_len (pa_cons (pv 1) pa_nil)) pa_nil)) (pg_name (i := 5) sc_row_at.nd rfl (by first | exact Or.inl rfl | exact Or.inr rfl)) (pss_one (ps_if (pt_val (pe_fn h_holds (hr.mono (by decide)) (by rfl) (pa_cons (pe_slice (r := rSlAny K) sl_any (pe_ix (r := rIx K) ix_seq (pv 1) (pv 5) (fun _ _ => rfl)) po_none (po_some pe_int)) (pa_cons (pv 3) pa_nil)))) (pss_one (ps_for PassesOwn.never rfl (pi_range2 (by rfl) T.range (pa_cons (pe_ix (r := rIx K) ix_seq (pv 2) (pv 5) (fun _ _ => rfl)) (pa_cons (pe_op (r := rAddAny K) op_addAny (pe_ix (r := rIx K) ix_seq (pv 2) (pv 5) (fun _ _ => rfl)) (pe_ix (r := rIx K) ix_seq (pe_ix (r := rIx K) ix_seq (pv 1) (pv 5) (fun _ _ => rfl)) pe_int (fun _ _ => rfl))) pa_nil))) (pg_name (i := 6) sc_row_at.nd rfl (by first | exact Or.inl rfl | exact Or.inr rfl)) (pss_one (ps_asg (pv 5) (pg_sub (pv 4) (pv 6) set_list))))) pss_nil)))
    (pss_one (ps_ret (pv 4))))), ?_⟩
  exact (ss_seq (ss_asgO (se_rep (sd_im (se_lst (sa_cons sd_non sa_nil))) (sv_vw 0)) rfl)
    (ss_seq (ss_for (sl_rng1 (sd_cb1 rc_lenAny (sv_vw 1))) (sg_name 5) (ss_if (st_b (sd_im (se_callL (fun _ => RpAll.nil) (sr_cons (sd_ex (sd_sl rds_any (sd_opN rd_ixAny (sv_vw 5)) so_none (so_some (sd_int _)))) (sr_cons (sd_ex (sd_var 3)) sr_nil)) (lenR_cons (lenR_cons lenR_nil)) rfl))) (ss_for (sl_rng2 (sd_opN rd_ixAny (sv_vw 5)) (sd_op rd_addAny (sd_opN rd_ixAny (sv_vw 5)) (sv_of (sd_op rd_ixAny (sd_opN rd_ixAny (sv_vw 5)) (sv_of (sd_int _)))))) (sg_name 6) (ss_set (sd_var 5) (sd_var 6)) rfl) ss_next) rfl)
    (ss_ret (sd_fz 4))))

theorem sc__law_some : FnScope N__law_some ps__law_some (defScope s__law_some) := ⟨rfl, rfl, rfl, by decide +kernel, rfl, by decide +kernel, by decide +kernel⟩
theorem fn__law_some (D : DefAt K mg "_law_some" s__law_some) (T : Txt mg) (h__law_take : FnAt P w K mg base 1 "_law_take" ps__law_take [] (toSp cl K 2 m__law_take)) : FnAt P w K mg base 2 "_law_some" ps__law_some [] (toSp cl K 2 m__law_some) := by
  refine fn_at (k := 1) D sc__law_some rfl rfl (fun _ _ _ _ _ _ us hl => match us, hl with | [_, _], _ => rfl) (fun f cdv A outer s H E hr => ?_)
  refine ⟨_, (pss_one (ps_ret (pe_ix (r := rIx K) ix_seq (pv 1) (pe_fn h__law_take (hr.mono (by decide)) (by rfl) (pa_cons (pv 0) (pa_cons (pe_callB (r := rLenAny K) call_len (by rfl) T.len PySem.boot_len (pa_cons (pv 1) pa_nil)) pa_nil))) (fun _ _ => rfl)))), ?_⟩
  exact (ss_ret (sd_opN rd_ixAny (sv_of (sd_im (se_callL (fun _ => RpAll.nil) (sr_cons (sd_at 0) (sr_cons (sd_ex (sd_cb1 rc_lenAny (sv_vw 1))) sr_nil)) (lenR_cons (lenR_cons lenR_nil)) rfl)))))

theorem sc__law_mixed : FnScope N__law_mixed ps__law_mixed (defScope s__law_mixed) := ⟨rfl, rfl, rfl, by decide +kernel, rfl, by decide +kernel, by decide +kernel⟩
theorem fn__law_mixed (D : DefAt K mg "_law_mixed" s__law_mixed) (T : Txt mg) (h__law_take : FnAt P w K mg base 1 "_law_take" ps__law_take [] (toSp cl K 2 m__law_take)) : FnAt P w K mg base 2 "_law_mixed" ps__law_mixed [] (toSp cl K 2 m__law_mixed) := by
  refine fn_at (k := 1) D sc__law_mixed rfl rfl (fun _ _ _ _ _ _ us hl => match us, hl with | [_, _], _ => rfl) (fun f cdv A outer s H E hr => ?_)
  refine ⟨_, (pss_cons (ps_set (i := 2) sc__law_mixed.nd rfl (Or.inl rfl) (pe_callTy (r := rListS K) call_list_of (by rfl) T.list (by decide +kernel) (pa_cons (pv 1) pa_nil)))
    (pss_cons (ps_for PassesOwn.never rfl (pi_range1 (by rfl) T.range (pa_cons (pe_callB (r := rLenAny K) call_len (by rfl) T.len PySem.boot_len (pa_cons (pv 2) pa_nil)) pa_nil)) (pg_name (i := 3) sc__law_mixed.nd rfl (by first | exact Or.inl rfl | exact Or.inr rfl)) (pss_cons (ps_set (i := 4) sc__law_mixed.nd rfl (Or.inl rfl) (pe_fn h__law_take (hr.mono (by decide)) (by rfl) (pa_cons (pv 0) (pa_cons (pe_callB (r := rLenAny K) call_len (by rfl) T.len PySem.boot_len (pa_cons (pv 2) pa_nil)) pa_nil))))
    (pss_one (ps_asg (pe_tup (pa_cons (pe_ix (r := rIx K) ix_seq (pv 2) (pv 4) (fun _ _ => rfl)) (pa_cons (pe_ix (r := rIx K) ix_seq (pv 2) (pv 3) (fun _ _ => rfl)) pa_nil))) (pg_tupK (K := K) (n := 2) (pgs_cons (pg_sub (pv 2) (pv 3) set_list) (pgs_cons (pg_sub (pv 2) (pv 4) set_list) pgs_nil)))))))
    (pss_one (ps_ret (pv 2))))), ?_⟩
  exact (ss_seq (ss_asgO (se_newL rcn_listOf (sv_vw 1)) rfl)
    (ss_seq (ss_for (sl_rng1 (sd_cb1 rc_lenAny (sv_vw 2))) (sg_name 3) (ss_seq (ss_asg (sd_im (se_callL (fun _ => RpAll.nil) (sr_cons (sd_at 0) (sr_cons (sd_ex (sd_cb1 rc_lenAny (sv_vw 2))) sr_nil)) (lenR_cons (lenR_cons lenR_nil)) rfl)) rfl)
    (ss_asgG (sd_tup (sa_cons (sd_opN rd_ixAny (sv_vw 4)) (sa_cons (sd_opN rd_ixAny (sv_vw 3)) sa_nil))) (sg_tup (sgs_cons (sg_sub (sd_var 3)) (sgs_cons (sg_sub (sd_var 4)) sgs_nil))) rfl)) rfl)
    (ss_ret (sd_fz 2))))

theorem sc__law_lists : FnScope N__law_lists ps__law_lists (defScope s__law_lists) := ⟨rfl, rfl, rfl, by decide +kernel, rfl, by decide +kernel, by decide +kernel⟩
theorem fn__law_lists (D : DefAt K mg "_law_lists" s__law_lists) (T : Txt mg) (h__law_lots : FnAt P w K mg base 1 "_law_lots" ps__law_lots [] (toSp cl K 2 m__law_lots)) : FnAt P w K mg base 2 "_law_lists" ps__law_lists [] (toSp cl K 4 m__law_lists) := by
  refine fn_at (k := 1) D sc__law_lists rfl rfl (fun _ _ _ _ _ _ us hl => match us, hl with | [_, _, _, _], _ => rfl) (fun f cdv A outer s H E hr => ?_)
  refine ⟨_, (pss_cons (ps_set (i := 4) sc__law_lists.nd rfl (Or.inl rfl) (pe_lst pa_nil))
    (pss_cons (ps_for PassesOwn.never rfl (pi_range2 (by rfl) T.range (pa_cons pe_int (pa_cons (pe_op (r := rAddAny K) op_addAny (pv 2) pe_int) pa_nil))) (pg_name (i := 5) sc__law_lists.nd rfl (by first | exact Or.inl rfl | exact Or.inr rfl)) (pss_cons (ps_set (i := 6) sc__law_lists.nd rfl (Or.inl rfl) (pe_lst pa_nil))
    (pss_cons (ps_for PassesOwn.never rfl (pi_listK (K := K) (pe_fn h__law_lots (hr.mono (by decide)) (by rfl) (pa_cons (pv 1) (pa_cons (pv 5) pa_nil)))) (pg_name (i := 7) sc__law_lists.nd rfl (by first | exact Or.inl rfl | exact Or.inr rfl)) (pss_cons (ps_setLc (i := 8) (own := [("room", 9)]) rfl sc__law_lists.nd rfl rfl (sw_true rfl rfl rfl (by decide +kernel)) (pi_range1 (by rfl) T.range (pa_cons (pv 0) pa_nil)) (blkOk_by (N := N__law_lists) (sc := defScope s__law_lists) (by decide +kernel)) (fun _ _ _ _ _ => (pg_name (i := 9) sc__law_lists.nd rfl (by first | exact Or.inl rfl | exact Or.inr rfl))) (fun _ _ _ _ _ => pts_nil) (fun _ _ _ _ _ => (pe_ifExp (pt_cmpR (r := rIn K false) op_in_seq (pv 9) (pv 7) rfl) (pv 3) (pe_ifExp (pt_cmpR (r := rIn K false) op_in_seq (pv 9) (pv 1) rfl) pe_int pe_int))))
    (pss_one (ps_expr (pe_bmK (K := K) PySem.F.plainAttrs_list PySem.F.slot_list_append PySem.F.type_list_append mt_append (pv 6) (pa_cons (pe_callTy call_tuple_any (by rfl) T.tuple (by decide +kernel) (pa_cons (pv 8) pa_nil)) pa_nil))))))
    (pss_one (ps_expr (pe_bmK (K := K) PySem.F.plainAttrs_list PySem.F.slot_list_append PySem.F.type_list_append mt_append (pv 4) (pa_cons (pe_callB (r := rSortedTI K) cr_sortedTI (by rfl) T.sorted (by decide +kernel) (pa_cons (pv 6) pa_nil)) pa_nil)))))))
    (pss_one (ps_ret (pv 4))))), ?_⟩
  exact (ss_seq (ss_asgO (se_lst sa_nil) rfl)
    (ss_seq (ss_for (sl_rng2 (sd_int _) (sd_opN rd_addAny (sv_of (sd_int _)))) (sg_name 5) (ss_seq (ss_asgO (se_lst sa_nil) rfl)
    (ss_seq (ss_for (sl_list (sd_im (se_callL (fun _ => RpAll.nil) (sr_cons (sd_ex (sd_var 1)) (sr_cons (sd_ex (sd_var 5)) sr_nil)) (lenR_cons (lenR_cons lenR_nil)) rfl))) (sg_name 7) (ss_seq (ss_asg (sd_im (se_lc (sl_rng1 (sd_var 0)) (sg_name 9) st_yes (sd_if (st_test (sd_opN rd_in (sv_vw 7))) (sd_var 3) (sd_if (st_test (sd_opN rd_in (sv_vw 1))) (sd_int _) (sd_int _))))) rfl)
    (ss_app (sd_cb1 rc_tupleOf (sv_vw 8)))) rfl)
    (ss_app (sd_cb1 rc_sortT (sv_vw 6))))) rfl)
    (ss_ret (sd_fz 4))))

theorem sc_is_group : FnScope N_is_group ps_is_group (defScope s_is_group) := ⟨rfl, rfl, rfl, by decide +kernel, rfl, by decide +kernel, by decide +kernel⟩
theorem fn_is_group (D : DefAt K mg "is_group" s_is_group) (T : Txt mg) (h_is_stretch : FnAt P w K mg base 2 "is_stretch" ps_is_stretch [] (toSp cl K 1 m_is_stretch)) (h_is_whole : FnAt P w K mg base 1 "is_whole" ps_is_whole [] (toSp cl K 1 m_is_whole)) : FnAt P w K mg base 3 "is_group" ps_is_group [] (toSp cl K 1 m_is_group) := by
  refine fn_at (k := 2) D sc_is_group rfl rfl (fun _ _ _ _ _ _ us hl => match us, hl with | [_], _ => rfl) (fun f cdv A outer s H E hr => ?_)
  refine ⟨_, (pss_cons (ps_if (PW.pt (pw_or (pt_not (pt_val (pe_callB (r := rIsi K) call_isi (by rfl) T.isinstance (by decide +kernel) (pa_cons (pv 0) (pa_cons (pe_bltn (v := .ty "tuple") (by rfl) T.tuple (by decide +kernel) rfl) pa_nil))))) (pw_or1 (pt_cmpR (r := rNeB K) (op_neB hr.units) (pe_callB (r := rLenAny K) call_len (by rfl) T.len PySem.boot_len (pa_cons (pv 0) pa_nil)) pe_int (nomark _))))) (pss_one (ps_ret pe_bl)) pss_nil)
    (pss_one (ps_ret (pe_and (pe_fn h_is_stretch (hr.mono (by decide)) (by rfl) (pa_cons (pe_slice (r := rSlAny K) sl_any (pv 0) po_none (po_some pe_int)) pa_nil)) (pe_and (pe_fn h_is_whole (hr.mono (by decide)) (by rfl) (pa_cons (pe_ix (r := rIx K) ix_seq (pv 0) pe_int (fun _ _ => rfl)) pa_nil)) (pe_one (pe_chain op_le op_le pe_int (pe_ix (r := rIx K) ix_seq (pv 0) pe_int (fun _ _ => rfl)) (pe_gint (by rfl) T.g_MOST_ROOMS)))))))), ?_⟩
  exact (ss_seq (ss_if (st_or (st_not (st_b (sd_isi (sv_vw 0)))) (st_test (sd_op rd_ne (sd_cb1 rc_lenAny (sv_vw 0)) (sv_of (sd_int _))))) (ss_ret (sd_bl _)) ss_next)
    (ss_ret (sd_andV (sd_im (se_callL (fun _ => RpAll.nil) (sr_cons (sd_ex (sd_slN rds_any so_none (so_some (sd_int _)))) sr_nil) (lenR_cons lenR_nil) rfl)) (sd_andV (sd_im (se_callL (fun _ => RpAll.nil) (sr_cons (sd_ex (sd_opN rd_ixAny (sv_of (sd_int _)))) sr_nil) (lenR_cons lenR_nil) rfl)) (sd_chain rd_le rd_le (sd_int _) (sd_opN rd_ixAny (sv_of (sd_int _))) (sv_of (sd_int _)))))))

theorem sc_lists_of : FnScope N_lists_of ps_lists_of (defScope s_lists_of) := ⟨rfl, rfl, rfl, by decide +kernel, rfl, by decide +kernel, by decide +kernel⟩
theorem fn_lists_of (D : DefAt K mg "lists_of" s_lists_of) (T : Txt mg) (x_TooMany : XcAt P w K mg base "TooMany" (cl 13) "number") (h_in_turn : FnAt P w K mg base 1 "in_turn" ps_in_turn [] (toSp cl K 1 m_in_turn)) (h_rows_behind : FnAt P w K mg base 2 "rows_behind" ps_rows_behind [] (toSp cl K 2 m_rows_behind)) : FnAtX P w K mg base 3 "lists_of" ps_lists_of [] (toSpX cl K 2 m_lists_of x_lists_of) := by
  refine fn_atX (k := 2) D sc_lists_of rfl rfl (fun _ _ _ _ _ _ us hl => match us, hl with | [_, _], _ => rfl) (fun f cdv A outer s H E hr => ?_)
  refine ⟨_, (pss_cons (ps_set (i := 2) sc_lists_of.nd rfl (Or.inl rfl) (pe_lst pa_nil))
    (pss_cons (ps_set (i := 3) sc_lists_of.nd rfl (Or.inl rfl) (pe_lst (pa_cons (pe_callTy call_tuple_any (by rfl) T.tuple (by decide +kernel) (pa_cons (pv 0) pa_nil)) pa_nil)))
    (pss_cons (ps_for (passes_of rfl) rfl (pi_listK (K := K) (pe_fn h_in_turn (hr.mono (by decide)) (by rfl) (pa_cons (pv 1) pa_nil))) (pg_name (i := 4) sc_lists_of.nd rfl (by first | exact Or.inl rfl | exact Or.inr rfl)) (pss_cons (ps_set (i := 3) sc_lists_of.nd rfl (Or.inl rfl) (pe_fn h_rows_behind (hr.mono (by decide)) (by rfl) (pa_cons (pv 3) (pa_cons (pe_ix (r := rIx K) ix_seq (pv 1) (pv 4) (fun _ _ => rfl)) pa_nil))))
    (pss_cons (ps_expr (pe_bmK (K := K) PySem.F.plainAttrs_list PySem.F.slot_list_append PySem.F.type_list_append mt_append (pv 2) (pa_cons (pv 3) pa_nil)))
    (pss_cons (ps_if (pt_cmpR op_gt (pe_callB (r := rLenAny K) call_len (by rfl) T.len PySem.boot_len (pa_cons (pv 3) pa_nil)) (pe_gint (by rfl) T.g_MOST_ROWS) (nomark _)) (pss_one (ps_raiseX x_TooMany rfl (takes_of rfl rfl rfl rfl) (hr.mono (by decide)) (by rfl) (pe_callB (r := rLenAny K) call_len (by rfl) T.len PySem.boot_len (pa_cons (pv 2) pa_nil)))) pss_nil)
    (pss_one (ps_if (pt_cmpR (r := rEqB K) (op_eqB hr.units) (pv 3) (pe_lst pa_nil) (nomark _)) (pss_one ps_break) pss_nil))))))
    (pss_one (ps_ret (pv 2)))))), ?_⟩
  exact (ss_seq (ss_asgO (se_lst sa_nil) rfl)
    (ss_seq (ss_asg (sd_im (se_lst (sa_cons (sd_cb1 rc_tupleOf (sv_vw 0)) sa_nil))) rfl)
    (ss_seq (ss_for (sl_list (sd_im (se_callL (fun _ => RpAll.nil) (sr_cons (sd_ex (sd_var 1)) sr_nil) (lenR_cons lenR_nil) rfl))) (sg_name 4) (ss_seq (ss_asg (sd_im (se_callL (fun _ => RpAll.nil) (sr_cons (sd_ex (sd_var 3)) (sr_cons (sd_ex (sd_opN rd_ixAny (sv_vw 4))) sr_nil)) (lenR_cons (lenR_cons lenR_nil)) rfl)) rfl)
    (ss_seq (ss_app (sd_var 3))
    (ss_seq (ss_if (st_test (sd_op rd_gt (sd_cb1 rc_lenAny (sv_vw 3)) (sv_of (sd_int _)))) (ss_raise (f := "number") rfl x_TooMany.oex x_TooMany.fld (sd_cb1 rc_lenAny (sv_vw 2))) ss_next)
    (ss_if (st_test (sd_opN rd_eq (sv_of (sd_im (se_lst sa_nil))))) ss_brk ss_next)))) rfl)
    (ss_ret (sd_fz 2)))))

theorem sc_places_by : FnScope N_places_by ps_places_by (defScope s_places_by) := ⟨rfl, rfl, rfl, by decide +kernel, rfl, by decide +kernel, by decide +kernel⟩
theorem fn_places_by (D : DefAt K mg "places_by" s_places_by) (T : Txt mg) (h_in_turn : FnAt P w K mg base 1 "in_turn" ps_in_turn [] (toSp cl K 1 m_in_turn)) (h_step_to : FnAt P w K mg base 2 "step_to" ps_step_to [] (toSp cl K 3 m_step_to)) : FnAt P w K mg base 3 "places_by" ps_places_by [] (toSp cl K 3 m_places_by) := by
  refine fn_at (k := 2) D sc_places_by rfl rfl (fun _ _ _ _ _ _ us hl => match us, hl with | [_, _, _], _ => rfl) (fun f cdv A outer s H E hr => ?_)
  refine ⟨_, (pss_cons (ps_set (i := 3) sc_places_by.nd rfl (Or.inl rfl) (pe_op op_mulAny (pe_lst (pa_cons pe_int pa_nil)) (pe_callB (r := rLenAny K) call_len (by rfl) T.len PySem.boot_len (pa_cons (pv 1) pa_nil))))
    (pss_cons (ps_set (i := 4) sc_places_by.nd rfl (Or.inl rfl) (pe_fn h_in_turn (hr.mono (by decide)) (by rfl) (pa_cons (pv 1) pa_nil)))
    (pss_cons (ps_set (i := 5) sc_places_by.nd rfl (Or.inl rfl) (pe_ix (r := rIx K) ix_seq (pe_ix (r := rIx K) ix_seq (pv 2) (pe_un un_neg pe_int) (fun _ _ => rfl)) pe_int (fun _ _ => rfl)))
    (pss_cons (ps_for PassesOwn.never rfl (pi_range3 (by rfl) T.range (pa_cons (pe_op op_sub (pe_callB (r := rLenAny K) call_len (by rfl) T.len PySem.boot_len (pa_cons (pv 4) pa_nil)) pe_int) (pa_cons (pe_un un_neg pe_int) (pa_cons (pe_un un_neg pe_int) pa_nil)))) (pg_name (i := 6) sc_places_by.nd rfl (by first | exact Or.inl rfl | exact Or.inr rfl)) (pss_cons (ps_set (i := 7) sc_places_by.nd rfl (Or.inl rfl) (pe_lst (pa_cons (pe_callTy call_tuple_any (by rfl) T.tuple (by decide +kernel) (pa_cons (pv 0) pa_nil)) pa_nil)))
    (pss_cons (ps_if (pt_cmpR op_gt (pv 6) pe_int (nomark _)) (pss_one (ps_set (i := 7) sc_places_by.nd rfl (Or.inl rfl) (pe_ix (r := rIx K) ix_seq (pv 2) (pe_op op_sub (pv 6) pe_int) (fun _ _ => rfl)))) pss_nil)
    (pss_cons (ps_asg (pe_fn h_step_to (hr.mono (by decide)) (by rfl) (pa_cons (pv 7) (pa_cons (pe_ix (r := rIx K) ix_seq (pv 1) (pe_ix (r := rIx K) ix_seq (pv 4) (pv 6) (fun _ _ => rfl)) (fun _ _ => rfl)) (pa_cons (pv 5) pa_nil)))) (pg_tupK (K := K) (n := 2) (pgs_cons (pg_name (i := 5) sc_places_by.nd rfl (by first | exact Or.inl rfl | exact Or.inr rfl)) (pgs_cons (pg_name (i := 8) sc_places_by.nd rfl (by first | exact Or.inl rfl | exact Or.inr rfl)) pgs_nil))))
    (pss_one (ps_asg (pv 8) (pg_sub (pv 3) (pe_ix (r := rIx K) ix_seq (pv 4) (pv 6) (fun _ _ => rfl)) set_list)))))))
    (pss_one (ps_ret (pv 3))))))), ?_⟩
  exact (ss_seq (ss_asgO (se_rep (sd_im (se_lst (sa_cons (sd_int _) sa_nil))) (sv_of (sd_cb1 rc_lenAny (sv_vw 1)))) rfl)
    (ss_seq (ss_asg (sd_im (se_callL (fun _ => RpAll.nil) (sr_cons (sd_ex (sd_var 1)) sr_nil) (lenR_cons lenR_nil) rfl)) rfl)
    (ss_seq (ss_asg (sd_op rd_ixAny (sd_opN rd_ixAny (sv_of (sd_un rd_neg (sv_of (sd_int _))))) (sv_of (sd_int _))) rfl)
    (ss_seq (ss_for (sl_rng3 (sd_op rd_sub (sd_cb1 rc_lenAny (sv_vw 4)) (sv_of (sd_int _))) (sd_un rd_neg (sv_of (sd_int _))) (sd_un rd_neg (sv_of (sd_int _)))) (sg_name 6) (ss_seq (ss_asg (sd_im (se_lst (sa_cons (sd_cb1 rc_tupleOf (sv_vw 0)) sa_nil))) rfl)
    (ss_seq (ss_if (st_test (sd_opN rd_gt (sv_of (sd_int _)))) (ss_asg (sd_opN rd_ixAny (sv_of (sd_opN rd_sub (sv_of (sd_int _))))) rfl) ss_next)
    (ss_seq (ss_asgG (sd_im (se_callL (fun _ => RpAll.nil) (sr_cons (sd_ex (sd_var 7)) (sr_cons (sd_ex (sd_opN rd_ixAny (sv_of (sd_opN rd_ixAny (sv_vw 6))))) (sr_cons (sd_ex (sd_var 5)) sr_nil))) (lenR_cons (lenR_cons (lenR_cons lenR_nil))) rfl)) (sg_tup (sgs_cons (sg_name 5) (sgs_cons (sg_name 8) sgs_nil))) rfl)
    (ss_set (sd_var 8) (sd_opN rd_ixAny (sv_vw 6)))))) rfl)
    (ss_ret (sd_fz 3))))))

theorem sc_apart : FnScope N_apart ps_apart (defScope s_apart) := ⟨rfl, rfl, rfl, by decide +kernel, rfl, by decide +kernel, by decide +kernel⟩
theorem fn_apart (D : DefAt K mg "apart" s_apart) (T : Txt mg) (h_meets : FnAt P w K mg base 2 "meets" ps_meets [] (toSp cl K 2 m_meets)) : FnAt P w K mg base 3 "apart" ps_apart [] (toSp cl K 4 m_apart) := by
  refine fn_at (k := 2) D sc_apart rfl rfl (fun _ _ _ _ _ _ us hl => match us, hl with | [_, _, _, _], _ => rfl) (fun f cdv A outer s H E hr => ?_)
  refine ⟨_, (pss_cons (ps_if (pt_not (pt_val (pe_fn h_meets (hr.mono (by decide)) (by rfl) (pa_cons (pe_slice (r := rSlAny K) sl_any (pv 0) po_none (po_some pe_int)) (pa_cons (pe_slice (r := rSlAny K) sl_any (pv 2) po_none (po_some pe_int)) pa_nil))))) (pss_one (ps_ret pe_bl)) pss_nil)
    (pss_one (ps_ret (pe_or (pe_cmpR op_le (pe_op (r := rAddAny K) op_addAny (pv 1) (pe_ix (r := rIx K) ix_seq (pv 0) pe_int (fun _ _ => rfl))) (pv 3) (nomark _)) (pe_one (pe_cmpR op_le (pe_op (r := rAddAny K) op_addAny (pv 3) (pe_ix (r := rIx K) ix_seq (pv 2) pe_int (fun _ _ => rfl))) (pv 1) (nomark _))))))), ?_⟩
  exact (ss_seq (ss_if (st_not (st_b (sd_im (se_callL (fun _ => RpAll.nil) (sr_cons (sd_ex (sd_slN rds_any so_none (so_some (sd_int _)))) (sr_cons (sd_ex (sd_slN rds_any so_none (so_some (sd_int _)))) sr_nil)) (lenR_cons (lenR_cons lenR_nil)) rfl)))) (ss_ret (sd_bl _)) ss_next)
    (ss_ret (sd_orV (sd_op rd_le (sd_opN rd_addAny (sv_of (sd_opN rd_ixAny (sv_of (sd_int _))))) (sv_vw 3)) (sd_op rd_le (sd_opN rd_addAny (sv_of (sd_opN rd_ixAny (sv_of (sd_int _))))) (sv_vw 1)))))

theorem sc_check_groups : FnScope N_check_groups ps_check_groups (defScope s_check_groups) := ⟨rfl, rfl, rfl, by decide +kernel, rfl, by decide +kernel, by decide +kernel⟩
theorem fn_check_groups (D : DefAt K mg "check_groups" s_check_groups) (T : Txt mg) (x_NoWish : XcAt P w K mg base "NoWish" (cl 6) "at") (h_is_group : FnAt P w K mg base 3 "is_group" ps_is_group [] (toSp cl K 1 m_is_group)) : FnAtX P w K mg base 4 "check_groups" ps_check_groups [] (toSpX cl K 1 m_check_groups x_check_groups) := by
  refine fn_atX (k := 3) D sc_check_groups rfl rfl (fun _ _ _ _ _ _ us hl => match us, hl with | [_], _ => rfl) (fun f cdv A outer s H E hr => ?_)
  refine ⟨_, (pss_one (ps_for (passes_of rfl) rfl (pi_enumK (K := K) (by rfl) T.enumerate (pa_cons (pv 0) pa_nil)) (pg_tupK (K := K) (n := 2) (pgs_cons (pg_name (i := 1) sc_check_groups.nd rfl (by first | exact Or.inl rfl | exact Or.inr rfl)) (pgs_cons (pg_name (i := 2) sc_check_groups.nd rfl (by first | exact Or.inl rfl | exact Or.inr rfl)) pgs_nil))) (pss_one (ps_if (pt_not (pt_val (pe_fn h_is_group (hr.mono (by decide)) (by rfl) (pa_cons (pv 2) pa_nil)))) (pss_one (ps_raiseX x_NoWish rfl (takes_of rfl rfl rfl rfl) (hr.mono (by decide)) (by rfl) (pv 1))) pss_nil)))), ?_⟩
  exact (ss_for (sl_enum (sd_var 0)) (sg_tup (sgs_cons (sg_name 1) (sgs_cons (sg_name 2) sgs_nil))) (ss_if (st_not (st_b (sd_im (se_callL (fun _ => RpAll.nil) (sr_cons (sd_ex (sd_var 2)) sr_nil) (lenR_cons lenR_nil) rfl)))) (ss_raise (f := "at") rfl x_NoWish.oex x_NoWish.fld (sd_var 1)) ss_next) rfl)

theorem sc_laid : FnScope N_laid ps_laid (defScope s_laid) := ⟨rfl, rfl, rfl, by decide +kernel, rfl, by decide +kernel, by decide +kernel⟩
theorem fn_laid (D : DefAt K mg "laid" s_laid) (T : Txt mg) (h_check_groups : FnAtX P w K mg base 4 "check_groups" ps_check_groups [] (toSpX cl K 1 m_check_groups x_check_groups)) (h_lists_of : FnAtX P w K mg base 3 "lists_of" ps_lists_of [] (toSpX cl K 2 m_lists_of x_lists_of)) (h_places_by : FnAt P w K mg base 3 "places_by" ps_places_by [] (toSp cl K 3 m_places_by)) : FnAtX P w K mg base 5 "laid" ps_laid [] (toSpX cl K 2 m_laid x_laid) := by
  refine fn_atX (k := 4) D sc_laid rfl rfl (fun _ _ _ _ _ _ us hl => match us, hl with | [_, _], _ => rfl) (fun f cdv A outer s H E hr => ?_)
  refine ⟨_, (pss_cons (ps_expr (pe_fnX h_check_groups (takes_of rfl rfl rfl rfl) (hr.mono (by decide)) (by rfl) (pa_cons (pv 1) pa_nil)))
    (pss_cons (ps_set (i := 2) sc_laid.nd rfl (Or.inl rfl) (pe_fnX h_lists_of (takes_of rfl rfl rfl rfl) (hr.mono (by decide)) (by rfl) (pa_cons (pv 0) (pa_cons (pv 1) pa_nil))))
    (pss_cons (ps_if (pt_cmpR (r := rEqB K) (op_eqB hr.units) (pv 2) (pe_lst pa_nil) (nomark _)) (pss_one (ps_ret (pe_tup (pa_cons pe_str (pa_cons (pe_lst pa_nil) pa_nil))))) pss_nil)
    (pss_cons (ps_if (pt_cmpR (r := rEqB K) (op_eqB hr.units) (pe_ix (r := rIx K) ix_seq (pv 2) (pe_un un_neg pe_int) (fun _ _ => rfl)) (pe_lst pa_nil) (nomark _)) (pss_one (ps_ret (pe_tup (pa_cons pe_str (pa_cons (pv 2) pa_nil))))) pss_nil)
    (pss_one (ps_ret (pe_tup (pa_cons pe_str (pa_cons (pe_fn h_places_by (hr.mono (by decide)) (by rfl) (pa_cons (pv 0) (pa_cons (pv 1) (pa_cons (pv 2) pa_nil)))) pa_nil))))))))), ?_⟩
  exact (ss_seq (ss_dropX (sx_call (fun _ => RpAll.nil) (sr_cons (sd_ex (sd_var 1)) sr_nil) (lenR_cons lenR_nil) rfl) (ss_drop (se_callX (fun _ => RpAll.nil) (sr_cons (sd_ex (sd_var 1)) sr_nil) (lenR_cons lenR_nil) rfl)))
    (ss_seq (ss_asgX (sx_call (fun _ => RpAll.nil) (sr_cons (sd_ex (sd_var 0)) (sr_cons (sd_ex (sd_var 1)) sr_nil)) (lenR_cons (lenR_cons lenR_nil)) rfl) (ss_asg (sd_im (se_callX (fun _ => RpAll.nil) (sr_cons (sd_ex (sd_var 0)) (sr_cons (sd_ex (sd_var 1)) sr_nil)) (lenR_cons (lenR_cons lenR_nil)) rfl)) rfl))
    (ss_seq (ss_if (st_test (sd_opN rd_eq (sv_of (sd_im (se_lst sa_nil))))) (ss_ret (sd_tup (sa_cons (sd_str _) (sa_cons (sd_im (se_lst sa_nil)) sa_nil)))) ss_next)
    (ss_seq (ss_if (st_test (sd_op rd_eq (sd_opN rd_ixAny (sv_of (sd_un rd_neg (sv_of (sd_int _))))) (sv_of (sd_im (se_lst sa_nil))))) (ss_ret (sd_tup (sa_cons (sd_str _) (sa_cons (sd_var 2) sa_nil)))) ss_next)
    (ss_ret (sd_tup (sa_cons (sd_str _) (sa_cons (sd_im (se_callL (fun _ => RpAll.nil) (sr_cons (sd_ex (sd_var 0)) (sr_cons (sd_ex (sd_var 1)) (sr_cons (sd_ex (sd_var 2)) sr_nil))) (lenR_cons (lenR_cons (lenR_cons lenR_nil))) rfl)) sa_nil))))))))

theorem sc_is_laid : FnScope N_is_laid ps_is_laid (defScope s_is_laid) := ⟨rfl, rfl, rfl, by decide +kernel, rfl, by decide +kernel, by decide +kernel⟩
theorem fn_is_laid (D : DefAt K mg "is_laid" s_is_laid) (T : Txt mg) (h_apart : FnAt P w K mg base 3 "apart" ps_apart [] (toSp cl K 4 m_apart)) (h_check_groups : FnAtX P w K mg base 4 "check_groups" ps_check_groups [] (toSpX cl K 1 m_check_groups x_check_groups)) (h_is_place : FnAt P w K mg base 2 "is_place" ps_is_place [] (toSp cl K 3 m_is_place)) : FnAt P w K mg base 5 "is_laid" ps_is_laid [] (toSp cl K 3 m_is_laid) := by
  refine fn_at (k := 4) D sc_is_laid rfl rfl (fun _ _ _ _ _ _ us hl => match us, hl with | [_, _, _], _ => rfl) (fun f cdv A outer s H E hr => ?_)
  refine ⟨_, (pss_cons (ps_expr (pe_fnX0 h_check_groups (hr.mono (by decide)) (by rfl) (pa_cons (pv 1) pa_nil)))
    (pss_cons (ps_if (PW.pt (pw_or (pt_not (pt_val (pe_callB (r := rIsi K) call_isi (by rfl) T.isinstance (by decide +kernel) (pa_cons (pv 2) (pa_cons (pe_bltn (v := .ty "list") (by rfl) T.list (by decide +kernel) rfl) pa_nil))))) (pw_or1 (pt_cmpR (r := rNeB K) (op_neB hr.units) (pe_callB (r := rLenAny K) call_len (by rfl) T.len PySem.boot_len (pa_cons (pv 2) pa_nil)) (pe_callB (r := rLenAny K) call_len (by rfl) T.len PySem.boot_len (pa_cons (pv 1) pa_nil)) (nomark _))))) (pss_one (ps_ret pe_bl)) pss_nil)
    (pss_cons (ps_for PassesOwn.never rfl (pi_range1 (by rfl) T.range (pa_cons (pe_callB (r := rLenAny K) call_len (by rfl) T.len PySem.boot_len (pa_cons (pv 1) pa_nil)) pa_nil)) (pg_name (i := 3) sc_is_laid.nd rfl (by first | exact Or.inl rfl | exact Or.inr rfl)) (pss_one (ps_if (pt_not (pt_val (pe_fn h_is_place (hr.mono (by decide)) (by rfl) (pa_cons (pv 0) (pa_cons (pe_ix (r := rIx K) ix_seq (pv 1) (pv 3) (fun _ _ => rfl)) (pa_cons (pe_ix (r := rIx K) ix_seq (pv 2) (pv 3) (fun _ _ => rfl)) pa_nil)))))) (pss_one (ps_ret pe_bl)) pss_nil)))
    (pss_cons (ps_for PassesOwn.never rfl (pi_range1 (by rfl) T.range (pa_cons (pe_callB (r := rLenAny K) call_len (by rfl) T.len PySem.boot_len (pa_cons (pv 1) pa_nil)) pa_nil)) (pg_name (i := 3) sc_is_laid.nd rfl (by first | exact Or.inl rfl | exact Or.inr rfl)) (pss_one (ps_for PassesOwn.never rfl (pi_range1 (by rfl) T.range (pa_cons (pv 3) pa_nil)) (pg_name (i := 4) sc_is_laid.nd rfl (by first | exact Or.inl rfl | exact Or.inr rfl)) (pss_one (ps_if (pt_not (pt_val (pe_fn h_apart (hr.mono (by decide)) (by rfl) (pa_cons (pe_ix (r := rIx K) ix_seq (pv 1) (pv 4) (fun _ _ => rfl)) (pa_cons (pe_ix (r := rIx K) ix_seq (pv 2) (pv 4) (fun _ _ => rfl)) (pa_cons (pe_ix (r := rIx K) ix_seq (pv 1) (pv 3) (fun _ _ => rfl)) (pa_cons (pe_ix (r := rIx K) ix_seq (pv 2) (pv 3) (fun _ _ => rfl)) pa_nil))))))) (pss_one (ps_ret pe_bl)) pss_nil)))))
    (pss_one (ps_ret pe_bl)))))), ?_⟩
  exact (ss_seq (ss_drop (se_callX0 (fun _ => RpAll.nil) (sr_cons (sd_ex (sd_var 1)) sr_nil) (lenR_cons lenR_nil) rfl))
    (ss_seq (ss_if (st_or (st_not (st_b (sd_isi (sv_vw 2)))) (st_test (sd_op rd_ne (sd_cb1 rc_lenAny (sv_vw 2)) (sv_of (sd_cb1 rc_lenAny (sv_vw 1)))))) (ss_ret (sd_bl _)) ss_next)
    (ss_seq (ss_for (sl_rng1 (sd_cb1 rc_lenAny (sv_vw 1))) (sg_name 3) (ss_if (st_not (st_b (sd_im (se_callL (fun _ => RpAll.nil) (sr_cons (sd_ex (sd_var 0)) (sr_cons (sd_ex (sd_opN rd_ixAny (sv_vw 3))) (sr_cons (sd_ex (sd_opN rd_ixAny (sv_vw 3))) sr_nil))) (lenR_cons (lenR_cons (lenR_cons lenR_nil))) rfl)))) (ss_ret (sd_bl _)) ss_next) rfl)
    (ss_seq (ss_for (sl_rng1 (sd_cb1 rc_lenAny (sv_vw 1))) (sg_name 3) (ss_for (sl_rng1 (sd_var 3)) (sg_name 4) (ss_if (st_not (st_b (sd_im (se_callL (fun _ => RpAll.nil) (sr_cons (sd_ex (sd_opN rd_ixAny (sv_vw 4))) (sr_cons (sd_ex (sd_opN rd_ixAny (sv_vw 4))) (sr_cons (sd_ex (sd_opN rd_ixAny (sv_vw 3))) (sr_cons (sd_ex (sd_opN rd_ixAny (sv_vw 3))) sr_nil)))) (lenR_cons (lenR_cons (lenR_cons (lenR_cons lenR_nil)))) rfl)))) (ss_ret (sd_bl _)) ss_next) rfl) rfl)
    (ss_ret (sd_bl _))))))

theorem sc_is_none : FnScope N_is_none ps_is_none (defScope s_is_none) := ⟨rfl, rfl, rfl, by decide +kernel, rfl, by decide +kernel, by decide +kernel⟩
theorem fn_is_none (D : DefAt K mg "is_none" s_is_none) (T : Txt mg) (h_check_groups : FnAtX P w K mg base 4 "check_groups" ps_check_groups [] (toSpX cl K 1 m_check_groups x_check_groups)) (h_in_turn : FnAt P w K mg base 1 "in_turn" ps_in_turn [] (toSp cl K 1 m_in_turn)) (h_is_rows : FnAt P w K mg base 2 "is_rows" ps_is_rows [] (toSp cl K 2 m_is_rows)) (h_rows_behind : FnAt P w K mg base 2 "rows_behind" ps_rows_behind [] (toSp cl K 2 m_rows_behind)) : FnAt P w K mg base 5 "is_none" ps_is_none [] (toSp cl K 3 m_is_none) := by
  refine fn_at (k := 4) D sc_is_none rfl rfl (fun _ _ _ _ _ _ us hl => match us, hl with | [_, _, _], _ => rfl) (fun f cdv A outer s H E hr => ?_)
  refine ⟨_, (pss_cons (ps_expr (pe_fnX0 h_check_groups (hr.mono (by decide)) (by rfl) (pa_cons (pv 1) pa_nil)))
    (pss_cons (ps_if (PW.pt (pw_or (pt_not (pt_val (pe_callB (r := rIsi K) call_isi (by rfl) T.isinstance (by decide +kernel) (pa_cons (pv 2) (pa_cons (pe_bltn (v := .ty "list") (by rfl) T.list (by decide +kernel) rfl) pa_nil))))) (pw_or1 (pt_not (pt_chain op_le op_le pe_int (pe_callB (r := rLenAny K) call_len (by rfl) T.len PySem.boot_len (pa_cons (pv 2) pa_nil)) (pe_callB (r := rLenAny K) call_len (by rfl) T.len PySem.boot_len (pa_cons (pv 1) pa_nil))))))) (pss_one (ps_ret pe_bl)) pss_nil)
    (pss_cons (ps_for PassesOwn.never rfl (pi_listK (K := K) (pv 2)) (pg_name (i := 3) sc_is_none.nd rfl (by first | exact Or.inl rfl | exact Or.inr rfl)) (pss_one (ps_if (pt_not (pt_val (pe_fn h_is_rows (hr.mono (by decide)) (by rfl) (pa_cons (pv 3) (pa_cons (pe_callB (r := rLenAny K) call_len (by rfl) T.len PySem.boot_len (pa_cons (pv 0) pa_nil)) pa_nil))))) (pss_one (ps_ret pe_bl)) pss_nil)))
    (pss_cons (ps_set (i := 4) sc_is_none.nd rfl (Or.inl rfl) (pe_fn h_in_turn (hr.mono (by decide)) (by rfl) (pa_cons (pv 1) pa_nil)))
    (pss_cons (ps_set (i := 5) sc_is_none.nd rfl (Or.inl rfl) (pe_lst (pa_cons (pe_callTy call_tuple_any (by rfl) T.tuple (by decide +kernel) (pa_cons (pv 0) pa_nil)) pa_nil)))
    (pss_cons (ps_for PassesOwn.never rfl (pi_range1 (by rfl) T.range (pa_cons (pe_callB (r := rLenAny K) call_len (by rfl) T.len PySem.boot_len (pa_cons (pv 2) pa_nil)) pa_nil)) (pg_name (i := 6) sc_is_none.nd rfl (by first | exact Or.inl rfl | exact Or.inr rfl)) (pss_cons (ps_set (i := 7) sc_is_none.nd rfl (Or.inl rfl) (pe_callTy (r := rDictPT K) (call_dictPT rfl hr.units) (by rfl) T.dict (by decide +kernel) (pa_cons (pe_lc (own := [("row", 8)]) rfl sc_is_none.nd (pi_listK (K := K) (pe_ix (r := rIx K) ix_seq (pv 2) (pv 6) (fun _ _ => rfl))) (blkOk_by (N := N_is_none) (sc := defScope s_is_none) (by decide +kernel)) (fun _ _ _ _ _ => (pg_name (i := 8) sc_is_none.nd rfl (by first | exact Or.inl rfl | exact Or.inr rfl))) (fun _ _ _ _ _ => pts_nil) (fun _ _ _ _ _ => (pe_tup (pa_cons (pv 8) (pa_cons pe_bl pa_nil))))) pa_nil)))
    (pss_cons (ps_for PassesOwn.never rfl (pi_listK (K := K) (pe_fn h_rows_behind (hr.mono (by decide)) (by rfl) (pa_cons (pv 5) (pa_cons (pe_ix (r := rIx K) ix_seq (pv 1) (pe_ix (r := rIx K) ix_seq (pv 4) (pv 6) (fun _ _ => rfl)) (fun _ _ => rfl)) pa_nil)))) (pg_name (i := 8) sc_is_none.nd rfl (by first | exact Or.inl rfl | exact Or.inr rfl)) (pss_one (ps_if (pt_cmp (pc_dnotin hr.hu (pv 8) (pv 7))) (pss_one (ps_ret pe_bl)) pss_nil)))
    (pss_one (ps_set (i := 5) sc_is_none.nd rfl (Or.inl rfl) (pe_ix (r := rIx K) ix_seq (pv 2) (pv 6) (fun _ _ => rfl)))))))
    (pss_one (ps_ret (pe_cmpR (r := rEqB K) (op_eqB hr.units) (pe_ix (r := rIx K) ix_seq (pv 2) (pe_un un_neg pe_int) (fun _ _ => rfl)) (pe_lst pa_nil) (nomark _)))))))))), ?_⟩
  exact (ss_seq (ss_drop (se_callX0 (fun _ => RpAll.nil) (sr_cons (sd_ex (sd_var 1)) sr_nil) (lenR_cons lenR_nil) rfl))
    (ss_seq (ss_if (st_or (st_not (st_b (sd_isi (sv_vw 2)))) (st_not (st_test (sd_chain rd_le rd_le (sd_int _) (sd_cb1 rc_lenAny (sv_vw 2)) (sv_of (sd_cb1 rc_lenAny (sv_vw 1))))))) (ss_ret (sd_bl _)) ss_next)
    (ss_seq (ss_for (sl_list (sd_var 2)) (sg_name 3) (ss_if (st_not (st_b (sd_im (se_callL (fun _ => RpAll.nil) (sr_cons (sd_ex (sd_var 3)) (sr_cons (sd_ex (sd_cb1 rc_lenAny (sv_vw 0))) sr_nil)) (lenR_cons (lenR_cons lenR_nil)) rfl)))) (ss_ret (sd_bl _)) ss_next) rfl)
    (ss_seq (ss_asg (sd_im (se_callL (fun _ => RpAll.nil) (sr_cons (sd_ex (sd_var 1)) sr_nil) (lenR_cons lenR_nil) rfl)) rfl)
    (ss_seq (ss_asg (sd_im (se_lst (sa_cons (sd_cb1 rc_tupleOf (sv_vw 0)) sa_nil))) rfl)
    (ss_seq (ss_for (sl_rng1 (sd_cb1 rc_lenAny (sv_vw 2))) (sg_name 6) (ss_seq (ss_asgO (se_dictPT (sd_im (se_lc (sl_list (sd_opN rd_ixAny (sv_vw 6))) (sg_name 8) st_yes (sd_tup (sa_cons (sd_var 8) (sa_cons (sd_bl _) sa_nil)))))) rfl)
    (ss_seq (ss_for (sl_list (sd_im (se_callL (fun _ => RpAll.nil) (sr_cons (sd_ex (sd_var 5)) (sr_cons (sd_ex (sd_opN rd_ixAny (sv_of (sd_opN rd_ixAny (sv_vw 6))))) sr_nil)) (lenR_cons (lenR_cons lenR_nil)) rfl))) (sg_name 8) (ss_if (st_b (sd_tnotin (sd_var 8))) (ss_ret (sd_bl _)) ss_next) rfl)
    (ss_asg (sd_opN rd_ixAny (sv_vw 6)) rfl))) rfl)
    (ss_ret (sd_op rd_eq (sd_opN rd_ixAny (sv_of (sd_un rd_neg (sv_of (sd_int _))))) (sv_of (sd_im (se_lst sa_nil)))))))))))

theorem sc_least_wide : FnScope N_least_wide ps_least_wide (defScope s_least_wide) := ⟨rfl, rfl, rfl, by decide +kernel, rfl, by decide +kernel, by decide +kernel⟩
theorem fn_least_wide (D : DefAt K mg "least_wide" s_least_wide) (T : Txt mg) (h_check_groups : FnAtX P w K mg base 4 "check_groups" ps_check_groups [] (toSpX cl K 1 m_check_groups x_check_groups)) (h_laid : FnAtX P w K mg base 5 "laid" ps_laid [] (toSpX cl K 2 m_laid x_laid)) : FnAtX P w K mg base 6 "least_wide" ps_least_wide [] (toSpX cl K 1 m_least_wide x_least_wide) := by
  refine fn_atX (k := 5) D sc_least_wide rfl rfl (fun _ _ _ _ _ _ us hl => match us, hl with | [_], _ => rfl) (fun f cdv A outer s H E hr => ?_)
  refine ⟨_, (pss_cons (ps_expr (pe_fnX h_check_groups (takes_of rfl rfl rfl rfl) (hr.mono (by decide)) (by rfl) (pa_cons (pv 0) pa_nil)))
    (pss_cons (ps_if (pt_cmpR (r := rEqB K) (op_eqB hr.units) (pv 0) (pe_lst pa_nil) (nomark _)) (pss_one (ps_ret (pe_tup (pa_cons pe_str (pa_cons pe_int (pa_cons (pe_lst pa_nil) (pa_cons (pe_lst pa_nil) pa_nil))))))) pss_nil)
    (pss_cons (ps_set (i := 1) sc_least_wide.nd rfl (Or.inl rfl) (pe_lst pa_nil))
    (pss_cons (ps_for (passes_of rfl) rfl (pi_range2 (by rfl) T.range (pa_cons pe_int (pa_cons (pe_op (r := rAddAny K) op_addAny (pe_gint (by rfl) T.g_MOST_ROOMS) pe_int) pa_nil))) (pg_name (i := 2) sc_least_wide.nd rfl (by first | exact Or.inl rfl | exact Or.inr rfl)) (pss_cons (ps_asg (pe_fnX h_laid (takes_of rfl rfl rfl rfl) (hr.mono (by decide)) (by rfl) (pa_cons (pe_op op_mulAny (pe_lst (pa_cons pe_int pa_nil)) (pv 2)) (pa_cons (pv 0) pa_nil))) (pg_tupK (K := K) (n := 2) (pgs_cons (pg_name (i := 3) sc_least_wide.nd rfl (by first | exact Or.inl rfl | exact Or.inr rfl)) (pgs_cons (pg_name (i := 4) sc_least_wide.nd rfl (by first | exact Or.inl rfl | exact Or.inr rfl)) pgs_nil))))
    (pss_cons (ps_if (pt_cmpR (r := rEqB K) (op_eqB hr.units) (pv 3) pe_str (nomark _)) (pss_one (ps_ret (pe_tup (pa_cons pe_str (pa_cons (pv 2) (pa_cons (pv 4) (pa_cons (pv 1) pa_nil))))))) pss_nil)
    (pss_one (ps_set (i := 1) sc_least_wide.nd rfl (Or.inl rfl) (pv 4))))))
    (pss_one (ps_ret (pe_tup (pa_cons pe_str (pa_cons (pv 1) pa_nil))))))))), ?_⟩
  exact (ss_seq (ss_dropX (sx_call (fun _ => RpAll.nil) (sr_cons (sd_ex (sd_var 0)) sr_nil) (lenR_cons lenR_nil) rfl) (ss_drop (se_callX (fun _ => RpAll.nil) (sr_cons (sd_ex (sd_var 0)) sr_nil) (lenR_cons lenR_nil) rfl)))
    (ss_seq (ss_if (st_test (sd_opN rd_eq (sv_of (sd_im (se_lst sa_nil))))) (ss_ret (sd_tup (sa_cons (sd_str _) (sa_cons (sd_int _) (sa_cons (sd_im (se_lst sa_nil)) (sa_cons (sd_im (se_lst sa_nil)) sa_nil)))))) ss_next)
    (ss_seq (ss_asg (sd_im (se_lst sa_nil)) rfl)
    (ss_seq (ss_for (sl_rng2 (sd_int _) (sd_op rd_addAny (sd_int _) (sv_of (sd_int _)))) (sg_name 2) (ss_seq (ss_asgX (sx_call (fun _ => RpAll.nil) (sr_cons (sd_ex (sd_op rd_mulAny (sd_im (se_lst (sa_cons (sd_int _) sa_nil))) (sv_vw 2))) (sr_cons (sd_ex (sd_var 0)) sr_nil)) (lenR_cons (lenR_cons lenR_nil)) rfl) (ss_asgG (sd_im (se_callX (fun _ => RpAll.nil) (sr_cons (sd_ex (sd_op rd_mulAny (sd_im (se_lst (sa_cons (sd_int _) sa_nil))) (sv_vw 2))) (sr_cons (sd_ex (sd_var 0)) sr_nil)) (lenR_cons (lenR_cons lenR_nil)) rfl)) (sg_tup (sgs_cons (sg_name 3) (sgs_cons (sg_name 4) sgs_nil))) rfl))
    (ss_seq (ss_if (st_test (sd_opN rd_eq (sv_of (sd_str _)))) (ss_ret (sd_tup (sa_cons (sd_str _) (sa_cons (sd_var 2) (sa_cons (sd_var 4) (sa_cons (sd_var 1) sa_nil)))))) ss_next)
    (ss_asg (sd_var 4) rfl))) rfl)
    (ss_ret (sd_tup (sa_cons (sd_str _) (sa_cons (sd_var 1) sa_nil))))))))

theorem sc__law_singles_told : FnScope N__law_singles_told ps__law_singles_told (defScope s__law_singles_told) := ⟨rfl, rfl, rfl, by decide +kernel, rfl, by decide +kernel, by decide +kernel⟩
theorem fn__law_singles_told (D : DefAt K mg "_law_singles_told" s__law_singles_told) (T : Txt mg) (h__law_alike : FnAt P w K mg base 1 "_law_alike" ps__law_alike [] (toSp cl K 2 m__law_alike)) (h__law_lists : FnAt P w K mg base 2 "_law_lists" ps__law_lists [] (toSp cl K 4 m__law_lists)) (h__law_mixed : FnAt P w K mg base 2 "_law_mixed" ps__law_mixed [] (toSp cl K 2 m__law_mixed)) (h__law_some : FnAt P w K mg base 2 "_law_some" ps__law_some [] (toSp cl K 2 m__law_some)) (h__law_take : FnAt P w K mg base 1 "_law_take" ps__law_take [] (toSp cl K 2 m__law_take)) (h_is_laid : FnAt P w K mg base 5 "is_laid" ps_is_laid [] (toSp cl K 3 m_is_laid)) (h_is_none : FnAt P w K mg base 5 "is_none" ps_is_none [] (toSp cl K 3 m_is_none)) (h_laid : FnAtX P w K mg base 5 "laid" ps_laid [] (toSpX cl K 2 m_laid x_laid)) : FnAt P w K mg base 6 "_law_singles_told" ps__law_singles_told [] (toSp cl K 1 m__law_singles_told) := by
  refine fn_at (k := 5) D sc__law_singles_told rfl rfl (fun _ _ _ _ _ _ us hl => match us, hl with | [_], _ => rfl) (fun f cdv A outer s H E hr => ?_)
  refine ⟨_, (pss_cons (ps_set (i := 1) sc__law_singles_told.nd rfl (Or.inl rfl) (pe_op (r := rAddAny K) op_addAny pe_int (pe_fn h__law_take (hr.mono (by decide)) (by rfl) (pa_cons (pv 0) (pa_cons pe_int pa_nil)))))
    (pss_cons (ps_set (i := 2) sc__law_singles_told.nd rfl (Or.inr rfl) (pe_lc (own := [("room", 14)]) rfl sc__law_singles_told.nd (pi_range1 (by rfl) T.range (pa_cons (pv 1) pa_nil)) (blkOk_by (N := N__law_singles_told) (sc := defScope s__law_singles_told) (by decide +kernel)) (fun _ _ _ _ _ => (pg_name (i := 14) sc__law_singles_told.nd rfl (by first | exact Or.inl rfl | exact Or.inr rfl))) (fun _ _ _ _ _ => pts_nil) (fun _ _ _ _ _ => (pe_fn h__law_some (hr.mono (by decide)) (by rfl) (pa_cons (pv 0) (pa_cons (pe_lst (pa_cons pe_int (pa_cons pe_int (pa_cons pe_int pa_nil)))) pa_nil))))))
    (pss_cons (ps_setLc (i := 3) (own := [("room", 14)]) rfl sc__law_singles_told.nd rfl rfl (sw_true rfl rfl rfl (by decide +kernel)) (pi_range1 (by rfl) T.range (pa_cons (pv 1) pa_nil)) (blkOk_by (N := N__law_singles_told) (sc := defScope s__law_singles_told) (by decide +kernel)) (fun _ _ _ _ _ => (pg_name (i := 14) sc__law_singles_told.nd rfl (by first | exact Or.inl rfl | exact Or.inr rfl))) (fun _ _ _ _ _ => (pts_one (pt_cmpR (r := rEqB K) (op_eqB hr.units) (pe_ix (r := rIx K) ix_seq (pv 2) (pv 14) (fun _ _ => rfl)) pe_int (nomark _)))) (fun _ _ _ _ _ => (pv 14)))
    (pss_cons (ps_par (i := 4) (j := 5) rfl sc__law_singles_told.nd rfl rfl (by decide) rfl rfl (pa_cons (pe_fn h__law_take (hr.mono (by decide)) (by rfl) (pa_cons (pv 0) (pa_cons pe_int pa_nil))) (pa_cons (pe_fn h__law_take (hr.mono (by decide)) (by rfl) (pa_cons (pv 0) (pa_cons pe_int pa_nil))) pa_nil)) (by rfl))
    (pss_cons (ps_set (i := 6) sc__law_singles_told.nd rfl (Or.inl rfl) (pe_op (r := rAddAny K) op_addAny (pe_op (r := rAddAny K) op_addAny (pv 4) pe_int) (pe_fn h__law_take (hr.mono (by decide)) (by rfl) (pa_cons (pv 0) (pa_cons pe_int pa_nil)))))
    (pss_cons (ps_set (i := 7) sc__law_singles_told.nd rfl (Or.inl rfl) (pe_op op_mulAny (pe_lst (pa_cons (pe_tup (pa_cons (pv 4) (pa_cons (pv 6) (pa_cons pe_int pa_nil)))) pa_nil)) (pv 5)))
    (pss_cons (ps_set (i := 8) sc__law_singles_told.nd rfl (Or.inr rfl) (pe_fnX0 h_laid (hr.mono (by decide)) (by rfl) (pa_cons (pv 2) (pa_cons (pv 7) pa_nil))))
    (pss_cons (ps_if (pt_cmpR op_le (pv 5) (pe_callB (r := rLenAny K) call_len (by rfl) T.len PySem.boot_len (pa_cons (pv 3) pa_nil)) (nomark _)) (pss_cons (ps_if (PW.pt (pw_or (pt_cmpR (r := rNeB K) (op_neB hr.units) (pe_ix (r := rIx K) ix_seq (pv 8) pe_int (fun _ _ => rfl)) pe_str (nomark _)) (pw_or1 (pt_cmpR (r := rNeB K) (op_neB hr.units) (pe_callB (r := rLenAny K) call_len (by rfl) T.len PySem.boot_len (pa_cons (pe_ix (r := rIx K) ix_seq (pv 8) pe_int (fun _ _ => rfl)) pa_nil)) (pv 5) (nomark _))))) (pss_one (ps_ret pe_bl)) pss_nil)
    (pss_cons (ps_if (pt_cmpR (r := rNeB K) (op_neB hr.units) (pe_callB (r := rSortedI K) cr_sortedI (by rfl) T.sorted (by decide +kernel) (pa_cons (pe_ix (r := rIx K) ix_seq (pv 8) pe_int (fun _ _ => rfl)) pa_nil)) (pe_lc (own := [("room", 14)]) rfl sc__law_singles_told.nd (pi_listK (K := K) (pv 3)) (blkOk_by (N := N__law_singles_told) (sc := defScope s__law_singles_told) (by decide +kernel)) (fun _ _ _ _ _ => (pg_name (i := 14) sc__law_singles_told.nd rfl (by first | exact Or.inl rfl | exact Or.inr rfl))) (fun _ _ _ _ _ => (pts_one (pt_cmpR (r := rIn K false) op_in_seq (pv 14) (pe_ix (r := rIx K) ix_seq (pv 8) pe_int (fun _ _ => rfl)) rfl))) (fun _ _ _ _ _ => (pv 14))) (nomark _)) (pss_one (ps_ret pe_bl)) pss_nil)
    (pss_cons (ps_if (pt_not (pt_val (pe_fn h__law_alike (hr.mono (by decide)) (by rfl) (pa_cons (pe_fn h_is_laid (hr.mono (by decide)) (by rfl) (pa_cons (pv 2) (pa_cons (pv 7) (pa_cons (pe_ix (r := rIx K) ix_seq (pv 8) pe_int (fun _ _ => rfl)) pa_nil)))) (pa_cons pe_bl pa_nil))))) (pss_one (ps_ret pe_bl)) pss_nil)
    (pss_cons (ps_set (i := 9) sc__law_singles_told.nd rfl (Or.inl rfl) (pe_slice (r := rSlAny K) sl_any (pe_fn h__law_mixed (hr.mono (by decide)) (by rfl) (pa_cons (pv 0) (pa_cons (pv 3) pa_nil))) po_none (po_some (pv 5))))
    (pss_cons (ps_if (pt_not (pt_val (pe_fn h__law_alike (hr.mono (by decide)) (by rfl) (pa_cons (pe_fn h_is_laid (hr.mono (by decide)) (by rfl) (pa_cons (pv 2) (pa_cons (pv 7) (pa_cons (pv 9) pa_nil)))) (pa_cons pe_bl pa_nil))))) (pss_one (ps_ret pe_bl)) pss_nil)
    (pss_cons (ps_set (i := 10) sc__law_singles_told.nd rfl (Or.inl rfl) (pe_fn h__law_lists (hr.mono (by decide)) (by rfl) (pa_cons (pv 1) (pa_cons (pv 3) (pa_cons (pv 5) (pa_cons (pv 6) pa_nil))))))
    (pss_one (ps_ret (pe_or (pe_cmpR (r := rEqB K) (op_eqB hr.units) (pv 5) pe_int (nomark _)) (pe_one (pe_fn h__law_alike (hr.mono (by decide)) (by rfl) (pa_cons (pe_fn h_is_none (hr.mono (by decide)) (by rfl) (pa_cons (pv 2) (pa_cons (pv 7) (pa_cons (pv 10) pa_nil)))) (pa_cons pe_bl pa_nil))))))))))))) pss_nil)
    (pss_cons (ps_set (i := 11) sc__law_singles_told.nd rfl (Or.inl rfl) (pe_fn h__law_lists (hr.mono (by decide)) (by rfl) (pa_cons (pv 1) (pa_cons (pv 3) (pa_cons (pe_op (r := rAddAny K) op_addAny (pe_callB (r := rLenAny K) call_len (by rfl) T.len PySem.boot_len (pa_cons (pv 3) pa_nil)) pe_int) (pa_cons (pv 6) pa_nil))))))
    (pss_cons (ps_if (PW.pt (pw_or (pt_cmpR (r := rNeB K) (op_neB hr.units) (pv 8) (pe_tup (pa_cons pe_str (pa_cons (pv 11) pa_nil))) (nomark _)) (pw_or1 (pt_not (pt_val (pe_fn h__law_alike (hr.mono (by decide)) (by rfl) (pa_cons (pe_fn h_is_none (hr.mono (by decide)) (by rfl) (pa_cons (pv 2) (pa_cons (pv 7) (pa_cons (pv 11) pa_nil)))) (pa_cons pe_bl pa_nil)))))))) (pss_one (ps_ret pe_bl)) pss_nil)
    (pss_cons (ps_set (i := 12) sc__law_singles_told.nd rfl (Or.inl rfl) (pe_op (r := rAddAny K) op_addAny (pe_lc (own := [("rows", 15)]) rfl sc__law_singles_told.nd (pi_listK (K := K) (pe_slice (r := rSlAny K) sl_any (pv 11) po_none (po_some (pe_un un_neg pe_int)))) (blkOk_by (N := N__law_singles_told) (sc := defScope s__law_singles_told) (by decide +kernel)) (fun _ _ _ _ _ => (pg_name (i := 15) sc__law_singles_told.nd rfl (by first | exact Or.inl rfl | exact Or.inr rfl))) (fun _ _ _ _ _ => pts_nil) (fun _ _ _ _ _ => (pe_op (r := rAddAny K) op_addAny (pe_fn h__law_mixed (hr.mono (by decide)) (by rfl) (pa_cons (pv 0) (pa_cons (pv 15) pa_nil))) (pe_slice (r := rSlAny K) sl_any (pv 15) po_none (po_some pe_int))))) (pe_lst (pa_cons (pe_lst pa_nil) pa_nil))))
    (pss_cons (ps_if (pt_not (pt_val (pe_fn h__law_alike (hr.mono (by decide)) (by rfl) (pa_cons (pe_fn h_is_none (hr.mono (by decide)) (by rfl) (pa_cons (pv 2) (pa_cons (pv 7) (pa_cons (pv 12) pa_nil)))) (pa_cons pe_bl pa_nil))))) (pss_one (ps_ret pe_bl)) pss_nil)
    (pss_cons (ps_if (PW.pt (pw_and (pt_cmpR op_gt (pe_callB (r := rLenAny K) call_len (by rfl) T.len PySem.boot_len (pa_cons (pv 11) pa_nil)) pe_int (nomark _)) (pw_and1 (pt_cmpR (r := rNeB K) (op_neB hr.units) (pe_ix (r := rIx K) ix_seq (pv 11) pe_int (fun _ _ => rfl)) (pe_lst pa_nil) (nomark _))))) (pss_cons (ps_set (i := 13) sc__law_singles_told.nd rfl (Or.inl rfl) (pe_op (r := rAddAny K) op_addAny (pe_lst (pa_cons (pe_slice (r := rSlAny K) sl_any (pe_ix (r := rIx K) ix_seq (pv 11) pe_int (fun _ _ => rfl)) (po_some pe_int) po_none) pa_nil)) (pe_slice (r := rSlAny K) sl_any (pv 11) (po_some pe_int) po_none)))
    (pss_one (ps_ret (pe_fn h__law_alike (hr.mono (by decide)) (by rfl) (pa_cons (pe_fn h_is_none (hr.mono (by decide)) (by rfl) (pa_cons (pv 2) (pa_cons (pv 7) (pa_cons (pv 13) pa_nil)))) (pa_cons (pe_cmpR (r := rEqB K) (op_eqB hr.units) (pe_slice (r := rSlAny K) sl_any (pe_ix (r := rIx K) ix_seq (pv 11) pe_int (fun _ _ => rfl)) (po_some pe_int) po_none) (pe_ix (r := rIx K) ix_seq (pv 11) pe_int (fun _ _ => rfl)) (nomark _)) pa_nil)))))) pss_nil)
    (pss_one (ps_ret pe_bl))))))))))))))), ?_⟩
  exact (ss_seq (ss_asg (sd_op rd_addAny (sd_int _) (sv_of (sd_im (se_callL (fun _ => RpAll.nil) (sr_cons (sd_at 0) (sr_cons (sd_ex (sd_int _)) sr_nil)) (lenR_cons (lenR_cons lenR_nil)) rfl)))) rfl)
    (ss_seq (ss_asg (sd_im (se_lc (sl_rng1 (sd_var 1)) (sg_name 14) st_yes (sd_im (se_callL (fun _ => RpAll.nil) (sr_cons (sd_at 0) (sr_cons (se_lst (sa_cons (sd_int _) (sa_cons (sd_int _) (sa_cons (sd_int _) sa_nil)))) sr_nil)) (lenR_cons (lenR_cons lenR_nil)) rfl)))) rfl)
    (ss_seq (ss_asg (sd_im (se_lc (sl_rng1 (sd_var 1)) (sg_name 14) (st_test (sd_op rd_eq (sd_opN rd_ixAny (sv_vw 14)) (sv_of (sd_int _)))) (sd_var 14))) rfl)
    (ss_seq (ss_par (sa_cons (sd_im (se_callL (fun _ => RpAll.nil) (sr_cons (sd_at 0) (sr_cons (sd_ex (sd_int _)) sr_nil)) (lenR_cons (lenR_cons lenR_nil)) rfl)) (sa_cons (sd_im (se_callL (fun _ => RpAll.nil) (sr_cons (sd_at 0) (sr_cons (sd_ex (sd_int _)) sr_nil)) (lenR_cons (lenR_cons lenR_nil)) rfl)) sa_nil)) rfl rfl)
    (ss_seq (ss_asg (sd_op rd_addAny (sd_opN rd_addAny (sv_of (sd_int _))) (sv_of (sd_im (se_callL (fun _ => RpAll.nil) (sr_cons (sd_at 0) (sr_cons (sd_ex (sd_int _)) sr_nil)) (lenR_cons (lenR_cons lenR_nil)) rfl)))) rfl)
    (ss_seq (ss_asg (sd_op rd_mulAny (sd_im (se_lst (sa_cons (sd_tup (sa_cons (sd_var 4) (sa_cons (sd_var 6) (sa_cons (sd_int _) sa_nil)))) sa_nil))) (sv_vw 5)) rfl)
    (ss_seq (ss_asg (sd_im (se_callX0 (fun _ => RpAll.nil) (sr_cons (sd_ex (sd_var 2)) (sr_cons (sd_ex (sd_var 7)) sr_nil)) (lenR_cons (lenR_cons lenR_nil)) rfl)) rfl)
    (ss_seq (ss_if (st_test (sd_opN rd_le (sv_of (sd_cb1 rc_lenAny (sv_vw 3))))) (ss_seq (ss_if (st_or (st_test (sd_op rd_ne (sd_opN rd_ixAny (sv_of (sd_int _))) (sv_of (sd_str _)))) (st_test (sd_op rd_ne (sd_cb1 rc_lenAny (sv_of (sd_opN rd_ixAny (sv_of (sd_int _))))) (sv_vw 5)))) (ss_ret (sd_bl _)) ss_next)
    (ss_seq (ss_if (st_test (sd_op rd_ne (sd_cb1 rc_sortI (sv_of (sd_opN rd_ixAny (sv_of (sd_int _))))) (sv_of (sd_im (se_lc (sl_list (sd_var 3)) (sg_name 14) (st_test (sd_opN rd_in (sv_of (sd_opN rd_ixAny (sv_of (sd_int _)))))) (sd_var 14)))))) (ss_ret (sd_bl _)) ss_next)
    (ss_seq (ss_if (st_not (st_b (sd_im (se_callL (fun _ => RpAll.nil) (sr_cons (se_callL (fun _ => RpAll.nil) (sr_cons (sd_ex (sd_var 2)) (sr_cons (sd_ex (sd_var 7)) (sr_cons (sd_ex (sd_opN rd_ixAny (sv_of (sd_int _)))) sr_nil))) (lenR_cons (lenR_cons (lenR_cons lenR_nil))) rfl) (sr_cons (sd_ex (sd_bl _)) sr_nil)) (lenR_cons (lenR_cons lenR_nil)) rfl)))) (ss_ret (sd_bl _)) ss_next)
    (ss_seq (ss_asg (sd_sl rds_any (sd_im (se_callL (fun _ => RpAll.nil) (sr_cons (sd_at 0) (sr_cons (sd_ex (sd_var 3)) sr_nil)) (lenR_cons (lenR_cons lenR_nil)) rfl)) so_none (so_some (sd_var 5))) rfl)
    (ss_seq (ss_if (st_not (st_b (sd_im (se_callL (fun _ => RpAll.nil) (sr_cons (se_callL (fun _ => RpAll.nil) (sr_cons (sd_ex (sd_var 2)) (sr_cons (sd_ex (sd_var 7)) (sr_cons (sd_ex (sd_var 9)) sr_nil))) (lenR_cons (lenR_cons (lenR_cons lenR_nil))) rfl) (sr_cons (sd_ex (sd_bl _)) sr_nil)) (lenR_cons (lenR_cons lenR_nil)) rfl)))) (ss_ret (sd_bl _)) ss_next)
    (ss_seq (ss_asg (sd_im (se_callL (fun _ => RpAll.nil) (sr_cons (sd_ex (sd_var 1)) (sr_cons (sd_ex (sd_var 3)) (sr_cons (sd_ex (sd_var 5)) (sr_cons (sd_ex (sd_var 6)) sr_nil)))) (lenR_cons (lenR_cons (lenR_cons (lenR_cons lenR_nil)))) rfl)) rfl)
    (ss_ret (sd_orV (sd_opN rd_eq (sv_of (sd_int _))) (sd_im (se_callL (fun _ => RpAll.nil) (sr_cons (se_callL (fun _ => RpAll.nil) (sr_cons (sd_ex (sd_var 2)) (sr_cons (sd_ex (sd_var 7)) (sr_cons (sd_ex (sd_var 10)) sr_nil))) (lenR_cons (lenR_cons (lenR_cons lenR_nil))) rfl) (sr_cons (sd_ex (sd_bl _)) sr_nil)) (lenR_cons (lenR_cons lenR_nil)) rfl)))))))))) ss_next)
    (ss_seq (ss_asg (sd_im (se_callL (fun _ => RpAll.nil) (sr_cons (sd_ex (sd_var 1)) (sr_cons (sd_ex (sd_var 3)) (sr_cons (sd_ex (sd_op rd_addAny (sd_cb1 rc_lenAny (sv_vw 3)) (sv_of (sd_int _)))) (sr_cons (sd_ex (sd_var 6)) sr_nil)))) (lenR_cons (lenR_cons (lenR_cons (lenR_cons lenR_nil)))) rfl)) rfl)
    (ss_seq (ss_if (st_or (st_test (sd_opN rd_ne (sv_of (sd_tup (sa_cons (sd_str _) (sa_cons (sd_var 11) sa_nil)))))) (st_not (st_b (sd_im (se_callL (fun _ => RpAll.nil) (sr_cons (se_callL (fun _ => RpAll.nil) (sr_cons (sd_ex (sd_var 2)) (sr_cons (sd_ex (sd_var 7)) (sr_cons (sd_ex (sd_var 11)) sr_nil))) (lenR_cons (lenR_cons (lenR_cons lenR_nil))) rfl) (sr_cons (sd_ex (sd_bl _)) sr_nil)) (lenR_cons (lenR_cons lenR_nil)) rfl))))) (ss_ret (sd_bl _)) ss_next)
    (ss_seq (ss_asg (sd_op rd_addAny (sd_im (se_lc (sl_list (sd_slN rds_any so_none (so_some (sd_un rd_neg (sv_of (sd_int _)))))) (sg_name 15) st_yes (sd_op rd_addAny (sd_im (se_callL (fun _ => RpAll.nil) (sr_cons (sd_at 0) (sr_cons (sd_ex (sd_var 15)) sr_nil)) (lenR_cons (lenR_cons lenR_nil)) rfl)) (sv_of (sd_slN rds_any so_none (so_some (sd_int _))))))) (sv_of (sd_im (se_lst (sa_cons (sd_im (se_lst sa_nil)) sa_nil))))) rfl)
    (ss_seq (ss_if (st_not (st_b (sd_im (se_callL (fun _ => RpAll.nil) (sr_cons (se_callL (fun _ => RpAll.nil) (sr_cons (sd_ex (sd_var 2)) (sr_cons (sd_ex (sd_var 7)) (sr_cons (sd_ex (sd_var 12)) sr_nil))) (lenR_cons (lenR_cons (lenR_cons lenR_nil))) rfl) (sr_cons (sd_ex (sd_bl _)) sr_nil)) (lenR_cons (lenR_cons lenR_nil)) rfl)))) (ss_ret (sd_bl _)) ss_next)
    (ss_seq (ss_if (st_and (st_test (sd_op rd_gt (sd_cb1 rc_lenAny (sv_vw 11)) (sv_of (sd_int _)))) (st_test (sd_op rd_ne (sd_opN rd_ixAny (sv_of (sd_int _))) (sv_of (sd_im (se_lst sa_nil)))))) (ss_seq (ss_asg (sd_op rd_addAny (sd_im (se_lst (sa_cons (sd_sl rds_any (sd_opN rd_ixAny (sv_of (sd_int _))) (so_some (sd_int _)) so_none) sa_nil))) (sv_of (sd_slN rds_any (so_some (sd_int _)) so_none))) rfl)
    (ss_ret (sd_im (se_callL (fun _ => RpAll.nil) (sr_cons (se_callL (fun _ => RpAll.nil) (sr_cons (sd_ex (sd_var 2)) (sr_cons (sd_ex (sd_var 7)) (sr_cons (sd_ex (sd_var 13)) sr_nil))) (lenR_cons (lenR_cons (lenR_cons lenR_nil))) rfl) (sr_cons (sd_ex (sd_op rd_eq (sd_sl rds_any (sd_opN rd_ixAny (sv_of (sd_int _))) (so_some (sd_int _)) so_none) (sv_of (sd_opN rd_ixAny (sv_of (sd_int _)))))) sr_nil)) (lenR_cons (lenR_cons lenR_nil)) rfl)))) ss_next)
    (ss_ret (sd_bl _)))))))))))))))

theorem sc__law_apart_told : FnScope N__law_apart_told ps__law_apart_told (defScope s__law_apart_told) := ⟨rfl, rfl, rfl, by decide +kernel, rfl, by decide +kernel, by decide +kernel⟩
theorem fn__law_apart_told (D : DefAt K mg "_law_apart_told" s__law_apart_told) (T : Txt mg) (x_TooMany : XcAt P w K mg base "TooMany" (cl 13) "number") (xf_TooMany : XfC K (cl 13)) (em_TooMany : ∀ c, c ∈ [13] → PySem.W.exmOne K (.ref (cl c)) (.ref (cl 13)) = some ((fun c => decide (c = 13)) c)) (h__law_take : FnAt P w K mg base 1 "_law_take" ps__law_take [] (toSp cl K 2 m__law_take)) (h_laid : FnAtX P w K mg base 5 "laid" ps_laid [] (toSpX cl K 2 m_laid x_laid)) : FnAt P w K mg base 6 "_law_apart_told" ps__law_apart_told [] (toSp cl K 1 m__law_apart_told) := by
  refine fn_at (k := 5) D sc__law_apart_told rfl rfl (fun _ _ _ _ _ _ us hl => match us, hl with | [_], _ => rfl) (fun f cdv A outer s H E hr => ?_)
  refine ⟨_, (pss_cons (ps_par (i := 1) (j := 2) rfl sc__law_apart_told.nd rfl rfl (by decide) rfl rfl (pa_cons (pe_op (r := rAddAny K) op_addAny pe_int (pe_fn h__law_take (hr.mono (by decide)) (by rfl) (pa_cons (pv 0) (pa_cons pe_int pa_nil)))) (pa_cons (pe_op (r := rAddAny K) op_addAny pe_int (pe_fn h__law_take (hr.mono (by decide)) (by rfl) (pa_cons (pv 0) (pa_cons pe_int pa_nil)))) pa_nil)) (by rfl))
    (pss_cons (ps_setLc (i := 3) (own := [("k", 6)]) rfl sc__law_apart_told.nd rfl rfl (sw_true rfl rfl rfl (by decide +kernel)) (pi_range1 (by rfl) T.range (pa_cons (pv 2) pa_nil)) (blkOk_by (N := N__law_apart_told) (sc := defScope s__law_apart_told) (by decide +kernel)) (fun _ _ _ _ _ => (pg_name (i := 6) sc__law_apart_told.nd rfl (by first | exact Or.inl rfl | exact Or.inr rfl))) (fun _ _ _ _ _ => pts_nil) (fun _ _ _ _ _ => (pe_tup (pa_cons pe_int (pa_cons (pe_op (r := rAddAny K) op_addAny pe_int (pv 6)) (pa_cons pe_int pa_nil))))))
    (pss_cons (ps_asg (pe_tup (pa_cons pe_int (pa_cons pe_non pa_nil))) (pg_tupK (K := K) (n := 2) (pgs_cons (pg_name (i := 4) sc__law_apart_told.nd rfl (by first | exact Or.inl rfl | exact Or.inr rfl)) (pgs_cons (pg_name (i := 5) sc__law_apart_told.nd rfl (by first | exact Or.inl rfl | exact Or.inr rfl)) pgs_nil))))
    (pss_cons (ps_for PassesOwn.never rfl (pi_range1 (by rfl) T.range (pa_cons (pe_callB (call_min2 rfl) (by rfl) T.min (by decide +kernel) (pa_cons (pv 2) (pa_cons (pv 1) pa_nil))) pa_nil)) (pg_name (i := 6) sc__law_apart_told.nd rfl (by first | exact Or.inl rfl | exact Or.inr rfl)) (pss_cons (ps_set (i := 4) sc__law_apart_told.nd rfl (Or.inl rfl) (pe_op op_mulAny (pv 4) (pe_op op_sub (pv 1) (pv 6))))
    (pss_one (ps_set (i := 5) sc__law_apart_told.nd rfl (Or.inl rfl) (pe_ifExp (PW.pt (pw_and (pt_cmpR op_gt (pv 4) pe_int (nomark _)) (pw_and1 (pt_cmpR op_isN (pv 5) pe_non (nomark _))))) (pe_op (r := rAddAny K) op_addAny (pv 6) pe_int) (pv 5))))))
    (pss_cons (ps_try_as (i := 8) rfl rfl sc__law_apart_told.nd rfl rfl ⟨by rfl, by decide, .inl x_TooMany.mgC⟩ DL.takesN (fun W pn xe tk po => (pss_one (ps_set (i := 7) sc__law_apart_told.nd rfl (Or.inr rfl) (pe_fnX h_laid tk (hr.mono (by decide)) (by rfl) (pa_cons (pe_op op_mulAny (pe_lst (pa_cons pe_int pa_nil)) (pv 1)) (pa_cons (pv 3) pa_nil)))))) (fun a oe cls d pn hz hf => (pss_one (ps_ret (pe_cmpR (r := rEqB K) (op_eqB hr.units) (pe_xf xf_TooMany x_TooMany.fld hz hf (pv 8)) (pv 5) (nomark _))))))
    (pss_cons (ps_if (pt_cmpR op_notN (pv 5) pe_non (nomark _)) (pss_one (ps_ret pe_bl)) pss_nil)
    (pss_cons (ps_if (pt_cmpR op_le (pv 2) (pv 1) (nomark _)) (pss_cons (ps_setLc (i := 9) (own := [("room", 11)]) rfl sc__law_apart_told.nd rfl rfl (sw_true rfl rfl rfl (by decide +kernel)) (pi_range1 (by rfl) T.range (pa_cons (pv 1) pa_nil)) (blkOk_by (N := N__law_apart_told) (sc := defScope s__law_apart_told) (by decide +kernel)) (fun _ _ _ _ _ => (pg_name (i := 11) sc__law_apart_told.nd rfl (by first | exact Or.inl rfl | exact Or.inr rfl))) (fun _ _ _ _ _ => (pts_one (pt_cmpR (r := rIn K false) op_in_seq (pv 11) (pe_ix (r := rIx K) ix_seq (pv 7) pe_int (fun _ _ => rfl)) rfl))) (fun _ _ _ _ _ => (pv 11)))
    (pss_one (ps_ret (pe_and (pe_cmpR (r := rEqB K) (op_eqB hr.units) (pe_ix (r := rIx K) ix_seq (pv 7) pe_int (fun _ _ => rfl)) pe_str (nomark _)) (pe_one (pe_cmpR (r := rEqB K) (op_eqB hr.units) (pe_callB (r := rSortedI K) cr_sortedI (by rfl) T.sorted (by decide +kernel) (pa_cons (pe_ix (r := rIx K) ix_seq (pv 7) pe_int (fun _ _ => rfl)) pa_nil)) (pv 9) (nomark _))))))) pss_nil)
    (pss_cons (ps_par (i := 10) (j := 4) rfl sc__law_apart_told.nd rfl rfl (by decide) rfl rfl (pa_cons (pe_lst pa_nil) (pa_cons pe_int pa_nil)) (by rfl))
    (pss_cons (ps_for PassesOwn.never rfl (pi_range1 (by rfl) T.range (pa_cons (pv 1) pa_nil)) (pg_name (i := 6) sc__law_apart_told.nd rfl (by first | exact Or.inl rfl | exact Or.inr rfl)) (pss_cons (ps_set (i := 4) sc__law_apart_told.nd rfl (Or.inl rfl) (pe_op op_mulAny (pv 4) (pe_op op_sub (pv 1) (pv 6))))
    (pss_one (ps_expr (pe_bmK (K := K) PySem.F.plainAttrs_list PySem.F.slot_list_append PySem.F.type_list_append mt_append (pv 10) (pa_cons (pv 4) pa_nil))))))
    (pss_one (ps_ret (pe_and (pe_cmpR (r := rEqB K) (op_eqB hr.units) (pe_ix (r := rIx K) ix_seq (pv 7) pe_int (fun _ _ => rfl)) pe_str (nomark _)) (pe_one (pe_cmpR (r := rEqB K) (op_eqB hr.units) (pe_lc (own := [("rows", 12)]) rfl sc__law_apart_told.nd (pi_listK (K := K) (pe_ix (r := rIx K) ix_seq (pv 7) pe_int (fun _ _ => rfl))) (blkOk_by (N := N__law_apart_told) (sc := defScope s__law_apart_told) (by decide +kernel)) (fun _ _ _ _ _ => (pg_name (i := 12) sc__law_apart_told.nd rfl (by first | exact Or.inl rfl | exact Or.inr rfl))) (fun _ _ _ _ _ => pts_nil) (fun _ _ _ _ _ => (pe_callB (r := rLenAny K) call_len (by rfl) T.len PySem.boot_len (pa_cons (pv 12) pa_nil)))) (pe_op (r := rAddAny K) op_addAny (pv 10) (pe_lst (pa_cons pe_int pa_nil))) (nomark _))))))))))))))), ?_⟩
  exact (ss_seq (ss_par (sa_cons (sd_op rd_addAny (sd_int _) (sv_of (sd_im (se_callL (fun _ => RpAll.nil) (sr_cons (sd_at 0) (sr_cons (sd_ex (sd_int _)) sr_nil)) (lenR_cons (lenR_cons lenR_nil)) rfl)))) (sa_cons (sd_op rd_addAny (sd_int _) (sv_of (sd_im (se_callL (fun _ => RpAll.nil) (sr_cons (sd_at 0) (sr_cons (sd_ex (sd_int _)) sr_nil)) (lenR_cons (lenR_cons lenR_nil)) rfl)))) sa_nil)) rfl rfl)
    (ss_seq (ss_asg (sd_im (se_lc (sl_rng1 (sd_var 2)) (sg_name 6) st_yes (sd_tup (sa_cons (sd_int _) (sa_cons (sd_op rd_addAny (sd_int _) (sv_vw 6)) (sa_cons (sd_int _) sa_nil)))))) rfl)
    (ss_seq (ss_asgG (sd_tup (sa_cons (sd_int _) (sa_cons sd_non sa_nil))) (sg_tup (sgs_cons (sg_name 4) (sgs_cons (sg_name 5) sgs_nil))) rfl)
    (ss_seq (ss_for (sl_rng1 (sd_cb2 rc_min2 (sd_var 2) (sv_vw 1))) (sg_name 6) (ss_seq (ss_asg (sd_opN rd_mulAny (sv_of (sd_opN rd_sub (sv_vw 6)))) rfl)
    (ss_asg (sd_if (st_and (st_test (sd_opN rd_gt (sv_of (sd_int _)))) (st_test (sd_opN rd_is (sv_of sd_non)))) (sd_opN rd_addAny (sv_of (sd_int _))) (sd_var 5)) rfl)) rfl)
    (ss_seq (ss_tryAs (fun W => (ss_asgX (sx_call (fun _ => RpAll.nil) (sr_cons (sd_ex (sd_op rd_mulAny (sd_im (se_lst (sa_cons (sd_int _) sa_nil))) (sv_vw 1))) (sr_cons (sd_ex (sd_var 3)) sr_nil)) (lenR_cons (lenR_cons lenR_nil)) rfl) (ss_asg (sd_im (se_callX (fun _ => RpAll.nil) (sr_cons (sd_ex (sd_op rd_mulAny (sd_im (se_lst (sa_cons (sd_int _) sa_nil))) (sv_vw 1))) (sr_cons (sd_ex (sd_var 3)) sr_nil)) (lenR_cons (lenR_cons lenR_nil)) rfl)) rfl))) em_TooMany rfl (su_first' (fun su_v su_d su_h => (ss_ret (sd_op rd_eq (sd_c (toV_rp su_h)) (sv_vw 5)))) rfl rfl (fun _ _ _ _ _ _ h => h)))
    (ss_seq (ss_if (st_test (sd_opN rd_isNot (sv_of sd_non))) (ss_ret (sd_bl _)) ss_next)
    (ss_seq (ss_if (st_test (sd_opN rd_le (sv_vw 1))) (ss_seq (ss_asg (sd_im (se_lc (sl_rng1 (sd_var 1)) (sg_name 11) (st_test (sd_opN rd_in (sv_of (sd_opN rd_ixAny (sv_of (sd_int _)))))) (sd_var 11))) rfl)
    (ss_ret (sd_andV (sd_op rd_eq (sd_opN rd_ixAny (sv_of (sd_int _))) (sv_of (sd_str _))) (sd_op rd_eq (sd_cb1 rc_sortI (sv_of (sd_opN rd_ixAny (sv_of (sd_int _))))) (sv_vw 9))))) ss_next)
    (ss_seq (ss_ParOI (se_lst sa_nil) (sd_int _) rfl rfl)
    (ss_seq (ss_for (sl_rng1 (sd_var 1)) (sg_name 6) (ss_seq (ss_asg (sd_opN rd_mulAny (sv_of (sd_opN rd_sub (sv_vw 6)))) rfl)
    (ss_app (sd_var 4))) rfl)
    (ss_ret (sd_andV (sd_op rd_eq (sd_opN rd_ixAny (sv_of (sd_int _))) (sv_of (sd_str _))) (sd_op rd_eq (sd_im (se_lc (sl_list (sd_opN rd_ixAny (sv_of (sd_int _)))) (sg_name 12) st_yes (sd_cb1 rc_lenAny (sv_vw 12)))) (sv_of (sd_opN rd_addAny (sv_of (sd_im (se_lst (sa_cons (sd_int _) sa_nil))))))))))))))))))

theorem sc__law_wides_told : FnScope N__law_wides_told ps__law_wides_told (defScope s__law_wides_told) := ⟨rfl, rfl, rfl, by decide +kernel, rfl, by decide +kernel, by decide +kernel⟩
theorem fn__law_wides_told (D : DefAt K mg "_law_wides_told" s__law_wides_told) (T : Txt mg) (h__law_alike : FnAt P w K mg base 1 "_law_alike" ps__law_alike [] (toSp cl K 2 m__law_alike)) (h__law_mixed : FnAt P w K mg base 2 "_law_mixed" ps__law_mixed [] (toSp cl K 2 m__law_mixed)) (h__law_take : FnAt P w K mg base 1 "_law_take" ps__law_take [] (toSp cl K 2 m__law_take)) (h_is_laid : FnAt P w K mg base 5 "is_laid" ps_is_laid [] (toSp cl K 3 m_is_laid)) (h_is_none : FnAt P w K mg base 5 "is_none" ps_is_none [] (toSp cl K 3 m_is_none)) (h_least_wide : FnAtX P w K mg base 6 "least_wide" ps_least_wide [] (toSpX cl K 1 m_least_wide x_least_wide)) (h_row_at : FnAt P w K mg base 2 "row_at" ps_row_at [] (toSp cl K 4 m_row_at)) : FnAt P w K mg base 7 "_law_wides_told" ps__law_wides_told [] (toSp cl K 1 m__law_wides_told) := by
  refine fn_at (k := 6) D sc__law_wides_told rfl rfl (fun _ _ _ _ _ _ us hl => match us, hl with | [_], _ => rfl) (fun f cdv A outer s H E hr => ?_)
  refine ⟨_, (pss_cons (ps_set (i := 1) sc__law_wides_told.nd rfl (Or.inl rfl) (pe_lst pa_nil))
    (pss_cons (ps_for PassesOwn.never rfl (pi_range1 (by rfl) T.range (pa_cons (pe_op (r := rAddAny K) op_addAny pe_int (pe_fn h__law_take (hr.mono (by decide)) (by rfl) (pa_cons (pv 0) (pa_cons pe_int pa_nil)))) pa_nil)) (pg_name (i := 2) sc__law_wides_told.nd rfl (by first | exact Or.inl rfl | exact Or.inr rfl)) (pss_one (ps_expr (pe_bmK (K := K) PySem.F.plainAttrs_list PySem.F.slot_list_append PySem.F.type_list_append mt_append (pv 1) (pa_cons (pe_lc (own := [("k", 12)]) rfl sc__law_wides_told.nd (pi_range1 (by rfl) T.range (pa_cons (pe_op (r := rAddAny K) op_addAny pe_int (pe_fn h__law_take (hr.mono (by decide)) (by rfl) (pa_cons (pv 0) (pa_cons pe_int pa_nil)))) pa_nil)) (blkOk_by (N := N__law_wides_told) (sc := defScope s__law_wides_told) (by decide +kernel)) (fun _ _ _ _ _ => (pg_name (i := 12) sc__law_wides_told.nd rfl (by first | exact Or.inl rfl | exact Or.inr rfl))) (fun _ _ _ _ _ => pts_nil) (fun _ _ _ _ _ => (pe_op (r := rAddAny K) op_addAny pe_int (pe_fn h__law_take (hr.mono (by decide)) (by rfl) (pa_cons (pv 0) (pa_cons pe_int pa_nil)))))) pa_nil)))))
    (pss_cons (ps_asg (pe_tup (pa_cons (pe_lst pa_nil) (pa_cons (pe_callB (r := rMaxA K) (cr_maxA rfl hr.units) (by rfl) T.max (by decide +kernel) (pa_cons (pe_lc (own := [("some", 5)]) rfl sc__law_wides_told.nd (pi_listK (K := K) (pv 1)) (blkOk_by (N := N__law_wides_told) (sc := defScope s__law_wides_told) (by decide +kernel)) (fun _ _ _ _ _ => (pg_name (i := 5) sc__law_wides_told.nd rfl (by first | exact Or.inl rfl | exact Or.inr rfl))) (fun _ _ _ _ _ => pts_nil) (fun _ _ _ _ _ => (pe_callB (r := rSum K) (cr_sum rfl) (by rfl) T.sum (by decide +kernel) (pa_cons (pv 5) pa_nil)))) pa_nil)) pa_nil))) (pg_tupK (K := K) (n := 2) (pgs_cons (pg_name (i := 3) sc__law_wides_told.nd rfl (by first | exact Or.inl rfl | exact Or.inr rfl)) (pgs_cons (pg_name (i := 4) sc__law_wides_told.nd rfl (by first | exact Or.inl rfl | exact Or.inr rfl)) pgs_nil))))
    (pss_cons (ps_for PassesOwn.never rfl (pi_enumK (K := K) (by rfl) T.enumerate (pa_cons (pv 1) pa_nil)) (pg_tupK (K := K) (n := 2) (pgs_cons (pg_name (i := 2) sc__law_wides_told.nd rfl (by first | exact Or.inl rfl | exact Or.inr rfl)) (pgs_cons (pg_name (i := 5) sc__law_wides_told.nd rfl (by first | exact Or.inl rfl | exact Or.inr rfl)) pgs_nil))) (pss_one (ps_expr (pe_bmK (K := K) PySem.F.plainAttrs_list PySem.F.slot_list_extend PySem.F.type_list_extend mt_extend (pv 3) (pa_cons (pe_lc (own := [("many", 13)]) rfl sc__law_wides_told.nd (pi_listK (K := K) (pv 5)) (blkOk_by (N := N__law_wides_told) (sc := defScope s__law_wides_told) (by decide +kernel)) (fun _ _ _ _ _ => (pg_name (i := 13) sc__law_wides_told.nd rfl (by first | exact Or.inl rfl | exact Or.inr rfl))) (fun _ _ _ _ _ => pts_nil) (fun _ _ _ _ _ => (pe_tup (pa_cons (pe_op op_mulAny pe_int (pv 2)) (pa_cons (pe_op (r := rAddAny K) op_addAny (pe_op op_mulAny pe_int (pv 2)) pe_int) (pa_cons (pv 13) pa_nil)))))) pa_nil)))))
    (pss_cons (ps_set (i := 3) sc__law_wides_told.nd rfl (Or.inr rfl) (pe_fn h__law_mixed (hr.mono (by decide)) (by rfl) (pa_cons (pv 0) (pa_cons (pv 3) pa_nil))))
    (pss_cons (ps_set (i := 6) sc__law_wides_told.nd rfl (Or.inr rfl) (pe_fnX0 h_least_wide (hr.mono (by decide)) (by rfl) (pa_cons (pv 3) pa_nil)))
    (pss_cons (ps_if (pt_cmpR op_gt (pv 4) pe_int (nomark _)) (pss_one (ps_ret (pe_and (pe_cmpR (r := rEqB K) (op_eqB hr.units) (pe_ix (r := rIx K) ix_seq (pv 6) pe_int (fun _ _ => rfl)) pe_str (nomark _)) (pe_one (pe_cmpR (r := rEqB K) (op_eqB hr.units) (pe_ix (r := rIx K) ix_seq (pe_ix (r := rIx K) ix_seq (pv 6) pe_int (fun _ _ => rfl)) (pe_un un_neg pe_int) (fun _ _ => rfl)) (pe_lst pa_nil) (nomark _)))))) pss_nil)
    (pss_cons (ps_if (PW.pt (pw_or (pt_cmpR (r := rNeB K) (op_neB hr.units) (pe_slice (r := rSlAny K) sl_any (pv 6) po_none (po_some pe_int)) (pe_tup (pa_cons pe_str (pa_cons (pv 4) pa_nil))) (nomark _)) (pw_or1 (pt_not (pt_val (pe_fn h__law_alike (hr.mono (by decide)) (by rfl) (pa_cons (pe_fn h_is_laid (hr.mono (by decide)) (by rfl) (pa_cons (pe_op op_mulAny (pe_lst (pa_cons pe_int pa_nil)) (pv 4)) (pa_cons (pv 3) (pa_cons (pe_ix (r := rIx K) ix_seq (pv 6) pe_int (fun _ _ => rfl)) pa_nil)))) (pa_cons pe_bl pa_nil)))))))) (pss_one (ps_ret pe_bl)) pss_nil)
    (pss_cons (ps_if (PW.pt (pw_and (pt_cmpR (r := rEqB K) (op_eqB hr.units) (pv 4) pe_int (nomark _)) (pw_and1 (pt_cmpR (r := rNeB K) (op_neB hr.units) (pe_ix (r := rIx K) ix_seq (pv 6) pe_int (fun _ _ => rfl)) (pe_lst pa_nil) (nomark _))))) (pss_one (ps_ret pe_bl)) pss_nil)
    (pss_cons (ps_if (PW.pt (pw_and (pt_cmpR op_gt (pv 4) pe_int (nomark _)) (pw_and1 (pt_not (pt_val (pe_fn h__law_alike (hr.mono (by decide)) (by rfl) (pa_cons (pe_fn h_is_none (hr.mono (by decide)) (by rfl) (pa_cons (pe_op op_mulAny (pe_lst (pa_cons pe_int pa_nil)) (pe_op op_sub (pv 4) pe_int)) (pa_cons (pv 3) (pa_cons (pe_ix (r := rIx K) ix_seq (pv 6) pe_int (fun _ _ => rfl)) pa_nil)))) (pa_cons pe_bl pa_nil)))))))) (pss_one (ps_ret pe_bl)) pss_nil)
    (pss_cons (ps_set (i := 2) sc__law_wides_told.nd rfl (Or.inr rfl) (pe_fn h__law_take (hr.mono (by decide)) (by rfl) (pa_cons (pv 0) (pa_cons (pe_op (r := rAddAny K) op_addAny (pe_op op_mulAny pe_int (pe_callB (r := rLenAny K) call_len (by rfl) T.len PySem.boot_len (pa_cons (pv 1) pa_nil))) pe_int) pa_nil))))
    (pss_cons (ps_set (i := 7) sc__law_wides_told.nd rfl (Or.inl rfl) (pe_fn h_row_at (hr.mono (by decide)) (by rfl) (pa_cons (pv 4) (pa_cons (pv 3) (pa_cons (pe_ix (r := rIx K) ix_seq (pv 6) pe_int (fun _ _ => rfl)) (pa_cons (pv 2) pa_nil))))))
    (pss_cons (ps_for PassesOwn.never rfl (pi_enumK (K := K) (by rfl) T.enumerate (pa_cons (pv 7) pa_nil)) (pg_tupK (K := K) (n := 2) (pgs_cons (pg_name (i := 8) sc__law_wides_told.nd rfl (by first | exact Or.inl rfl | exact Or.inr rfl)) (pgs_cons (pg_name (i := 9) sc__law_wides_told.nd rfl (by first | exact Or.inl rfl | exact Or.inr rfl)) pgs_nil))) (pss_cons (ps_setLc (i := 10) (own := [("k", 12)]) rfl sc__law_wides_told.nd rfl rfl (sw_true rfl rfl rfl (by decide +kernel)) (pi_range1 (by rfl) T.range (pa_cons (pe_callB (r := rLenAny K) call_len (by rfl) T.len PySem.boot_len (pa_cons (pv 3) pa_nil)) pa_nil)) (blkOk_by (N := N__law_wides_told) (sc := defScope s__law_wides_told) (by decide +kernel)) (fun _ _ _ _ _ => (pg_name (i := 12) sc__law_wides_told.nd rfl (by first | exact Or.inl rfl | exact Or.inr rfl))) (fun _ _ _ _ _ => (pts_one (pt_cmpR (r := rEqB K) (op_eqB hr.units) (pe_op op_fdivW (pe_ix (r := rIx K) ix_seq (pe_ix (r := rIx K) ix_seq (pv 3) (pv 12) (fun _ _ => rfl)) pe_int (fun _ _ => rfl)) pe_int) (pe_op op_fdivW (pv 2) pe_int) (nomark _)))) (fun _ _ _ _ _ => (pv 12)))
    (pss_cons (ps_setLc (i := 11) (own := [("k", 12)]) rfl sc__law_wides_told.nd rfl rfl (sw_true rfl rfl rfl (by decide +kernel)) (pi_listK (K := K) (pv 10)) (blkOk_by (N := N__law_wides_told) (sc := defScope s__law_wides_told) (by decide +kernel)) (fun _ _ _ _ _ => (pg_name (i := 12) sc__law_wides_told.nd rfl (by first | exact Or.inl rfl | exact Or.inr rfl))) (fun _ _ _ _ _ => (pts_one (PW.pt (pw_and (pt_cmpR op_le (pe_ix (r := rIx K) ix_seq (pe_ix (r := rIx K) ix_seq (pv 6) pe_int (fun _ _ => rfl)) (pv 12) (fun _ _ => rfl)) (pv 8) (nomark _)) (pw_and1 (pt_cmpR op_lt (pv 8) (pe_op (r := rAddAny K) op_addAny (pe_ix (r := rIx K) ix_seq (pe_ix (r := rIx K) ix_seq (pv 6) pe_int (fun _ _ => rfl)) (pv 12) (fun _ _ => rfl)) (pe_ix (r := rIx K) ix_seq (pe_ix (r := rIx K) ix_seq (pv 3) (pv 12) (fun _ _ => rfl)) pe_int (fun _ _ => rfl))) (nomark _))))))) (fun _ _ _ _ _ => (pv 12)))
    (pss_one (ps_if (pt_cmpR (r := rNeB K) (op_neB hr.units) (pv 9) (pe_ifExp (pt_cmpR (r := rNeB K) (op_neB hr.units) (pv 11) (pe_lst pa_nil) (nomark _)) (pe_ix (r := rIx K) ix_seq (pv 11) pe_int (fun _ _ => rfl)) pe_non) (nomark _)) (pss_one (ps_ret pe_bl)) pss_nil)))))
    (pss_one (ps_ret (pe_and (pe_cmpR (r := rEqB K) (op_eqB hr.units) (pe_callB (r := rLenAny K) call_len (by rfl) T.len PySem.boot_len (pa_cons (pv 7) pa_nil)) (pv 4) (nomark _)) (pe_one (pe_cmpR (r := rEqB K) (op_eqB hr.units) (pe_fnX0 h_least_wide (hr.mono (by decide)) (by rfl) (pa_cons (pe_lst pa_nil) pa_nil)) (pe_tup (pa_cons pe_str (pa_cons pe_int (pa_cons (pe_lst pa_nil) (pa_cons (pe_lst pa_nil) pa_nil))))) (nomark _))))))))))))))))))), ?_⟩
  exact (ss_seq (ss_asgO (se_lst sa_nil) rfl)
    (ss_seq (ss_for (sl_rng1 (sd_op rd_addAny (sd_int _) (sv_of (sd_im (se_callL (fun _ => RpAll.nil) (sr_cons (sd_at 0) (sr_cons (sd_ex (sd_int _)) sr_nil)) (lenR_cons (lenR_cons lenR_nil)) rfl))))) (sg_name 2) (ss_app (sd_im (se_lc (sl_rng1 (sd_op rd_addAny (sd_int _) (sv_of (sd_im (se_callL (fun _ => RpAll.nil) (sr_cons (sd_at 0) (sr_cons (sd_ex (sd_int _)) sr_nil)) (lenR_cons (lenR_cons lenR_nil)) rfl))))) (sg_name 12) st_yes (sd_op rd_addAny (sd_int _) (sv_of (sd_im (se_callL (fun _ => RpAll.nil) (sr_cons (sd_at 0) (sr_cons (sd_ex (sd_int _)) sr_nil)) (lenR_cons (lenR_cons lenR_nil)) rfl))))))) rfl)
    (ss_seq (ss_TupOI (se_lst sa_nil) (sd_cb1 rc_maxA (sv_of (sd_im (se_lc (sl_list (sd_fz 1)) (sg_name 5) st_yes (sd_cb1 rc_sum (sv_vw 5)))))) rfl rfl)
    (ss_seq (ss_for (sl_enum (sd_fz 1)) (sg_tup (sgs_cons (sg_name 2) (sgs_cons (sg_name 5) sgs_nil))) (ss_ext (sd_im (se_lc (sl_list (sd_var 5)) (sg_name 13) st_yes (sd_tup (sa_cons (sd_op rd_mulAny (sd_int _) (sv_vw 2)) (sa_cons (sd_op rd_addAny (sd_op rd_mulAny (sd_int _) (sv_vw 2)) (sv_of (sd_int _))) (sa_cons (sd_var 13) sa_nil))))))) rfl)
    (ss_seq (ss_asg (sd_im (se_callL (fun _ => RpAll.nil) (sr_cons (sd_at 0) (sr_cons (sd_ex (sd_fz 3)) sr_nil)) (lenR_cons (lenR_cons lenR_nil)) rfl)) rfl)
    (ss_seq (ss_asg (sd_im (se_callX0 (fun _ => RpAll.nil) (sr_cons (sd_ex (sd_fz 3)) sr_nil) (lenR_cons lenR_nil) rfl)) rfl)
    (ss_seq (ss_if (st_test (sd_opN rd_gt (sv_of (sd_int _)))) (ss_ret (sd_andV (sd_op rd_eq (sd_opN rd_ixAny (sv_of (sd_int _))) (sv_of (sd_str _))) (sd_op rd_eq (sd_op rd_ixAny (sd_opN rd_ixAny (sv_of (sd_int _))) (sv_of (sd_un rd_neg (sv_of (sd_int _))))) (sv_of (sd_im (se_lst sa_nil)))))) ss_next)
    (ss_seq (ss_if (st_or (st_test (sd_op rd_ne (sd_slN rds_any so_none (so_some (sd_int _))) (sv_of (sd_tup (sa_cons (sd_str _) (sa_cons (sd_var 4) sa_nil)))))) (st_not (st_b (sd_im (se_callL (fun _ => RpAll.nil) (sr_cons (se_callL (fun _ => RpAll.nil) (sr_cons (sd_ex (sd_op rd_mulAny (sd_im (se_lst (sa_cons (sd_int _) sa_nil))) (sv_vw 4))) (sr_cons (sd_ex (sd_fz 3)) (sr_cons (sd_ex (sd_opN rd_ixAny (sv_of (sd_int _)))) sr_nil))) (lenR_cons (lenR_cons (lenR_cons lenR_nil))) rfl) (sr_cons (sd_ex (sd_bl _)) sr_nil)) (lenR_cons (lenR_cons lenR_nil)) rfl))))) (ss_ret (sd_bl _)) ss_next)
    (ss_seq (ss_if (st_and (st_test (sd_opN rd_eq (sv_of (sd_int _)))) (st_test (sd_op rd_ne (sd_opN rd_ixAny (sv_of (sd_int _))) (sv_of (sd_im (se_lst sa_nil)))))) (ss_ret (sd_bl _)) ss_next)
    (ss_seq (ss_if (st_and (st_test (sd_opN rd_gt (sv_of (sd_int _)))) (st_not (st_b (sd_im (se_callL (fun _ => RpAll.nil) (sr_cons (se_callL (fun _ => RpAll.nil) (sr_cons (sd_ex (sd_op rd_mulAny (sd_im (se_lst (sa_cons (sd_int _) sa_nil))) (sv_of (sd_opN rd_sub (sv_of (sd_int _)))))) (sr_cons (sd_ex (sd_fz 3)) (sr_cons (sd_ex (sd_opN rd_ixAny (sv_of (sd_int _)))) sr_nil))) (lenR_cons (lenR_cons (lenR_cons lenR_nil))) rfl) (sr_cons (sd_ex (sd_bl _)) sr_nil)) (lenR_cons (lenR_cons lenR_nil)) rfl))))) (ss_ret (sd_bl _)) ss_next)
    (ss_seq (ss_asg (sd_im (se_callL (fun _ => RpAll.nil) (sr_cons (sd_at 0) (sr_cons (sd_ex (sd_op rd_addAny (sd_op rd_mulAny (sd_int _) (sv_of (sd_cb1 rc_lenAny (sv_vw 1)))) (sv_of (sd_int _)))) sr_nil)) (lenR_cons (lenR_cons lenR_nil)) rfl)) rfl)
    (ss_seq (ss_asg (sd_im (se_callL (fun _ => RpAll.nil) (sr_cons (sd_ex (sd_var 4)) (sr_cons (sd_ex (sd_fz 3)) (sr_cons (sd_ex (sd_opN rd_ixAny (sv_of (sd_int _)))) (sr_cons (sd_ex (sd_var 2)) sr_nil)))) (lenR_cons (lenR_cons (lenR_cons (lenR_cons lenR_nil)))) rfl)) rfl)
    (ss_seq (ss_for (sl_enum (sd_var 7)) (sg_tup (sgs_cons (sg_name 8) (sgs_cons (sg_name 9) sgs_nil))) (ss_seq (ss_asg (sd_im (se_lc (sl_rng1 (sd_cb1 rc_lenAny (sv_vw 3))) (sg_name 12) (st_test (sd_op rd_eq (sd_op rd_divB (sd_op rd_ixAny (sd_opN rd_ixAny (sv_vw 12)) (sv_of (sd_int _))) (sv_of (sd_int _))) (sv_of (sd_opN rd_divB (sv_of (sd_int _)))))) (sd_var 12))) rfl)
    (ss_seq (ss_asg (sd_im (se_lc (sl_list (sd_var 10)) (sg_name 12) (st_and (st_test (sd_op rd_le (sd_op rd_ixAny (sd_opN rd_ixAny (sv_of (sd_int _))) (sv_vw 12)) (sv_vw 8))) (st_test (sd_opN rd_lt (sv_of (sd_op rd_addAny (sd_op rd_ixAny (sd_opN rd_ixAny (sv_of (sd_int _))) (sv_vw 12)) (sv_of (sd_op rd_ixAny (sd_opN rd_ixAny (sv_vw 12)) (sv_of (sd_int _))))))))) (sd_var 12))) rfl)
    (ss_if (st_test (sd_opN rd_ne (sv_of (sd_if (st_test (sd_opN rd_ne (sv_of (sd_im (se_lst sa_nil))))) (sd_opN rd_ixAny (sv_of (sd_int _))) sd_non)))) (ss_ret (sd_bl _)) ss_next))) rfl)
    (ss_ret (sd_andV (sd_op rd_eq (sd_cb1 rc_lenAny (sv_vw 7)) (sv_vw 4)) (sd_op rd_eq (sd_im (se_callX0 (fun _ => RpAll.nil) (sr_cons (se_lst sa_nil) sr_nil) (lenR_cons lenR_nil) rfl)) (sv_of (sd_tup (sa_cons (sd_str _) (sa_cons (sd_int _) (sa_cons (sd_im (se_lst sa_nil)) (sa_cons (sd_im (se_lst sa_nil)) sa_nil))))))))))))))))))))))

theorem sc_law : FnScope N_law ps_law (defScope s_law) := ⟨rfl, rfl, rfl, by decide +kernel, rfl, by decide +kernel, by decide +kernel⟩
theorem fn_law (D : DefAt K mg "law" s_law) (T : Txt mg) (h__law_alike : FnAt P w K mg base 1 "_law_alike" ps__law_alike [] (toSp cl K 2 m__law_alike)) (h__law_apart_told : FnAt P w K mg base 6 "_law_apart_told" ps__law_apart_told [] (toSp cl K 1 m__law_apart_told)) (h__law_bag : FnAt P w K mg base 1 "_law_bag" ps__law_bag [] (toSp cl K 1 m__law_bag)) (h__law_singles_told : FnAt P w K mg base 6 "_law_singles_told" ps__law_singles_told [] (toSp cl K 1 m__law_singles_told)) (h__law_wides_told : FnAt P w K mg base 7 "_law_wides_told" ps__law_wides_told [] (toSp cl K 1 m__law_wides_told)) (h_laid : FnAtX P w K mg base 5 "laid" ps_laid [] (toSpX cl K 2 m_laid x_laid)) : FnAt P w K mg base 8 "law" ps_law [] (toSp cl K 1 m_law) := by
  refine fn_at (k := 7) D sc_law rfl rfl (fun _ _ _ _ _ _ us hl => match us, hl with | [_], _ => rfl) (fun f cdv A outer s H E hr => ?_)
  refine ⟨_, (pss_cons (ps_set (i := 1) sc_law.nd rfl (Or.inl rfl) (pe_fn h__law_bag (hr.mono (by decide)) (by rfl) (pa_cons (pv 0) pa_nil)))
    (pss_cons (ps_for PassesOwn.never rfl (pi_range1 (by rfl) T.range (pa_cons pe_int pa_nil)) (pg_name (i := 2) sc_law.nd rfl (by first | exact Or.inl rfl | exact Or.inr rfl)) (pss_one (ps_if (PW.pt (pw_or (pt_not (pt_val (pe_fn h__law_singles_told (hr.mono (by decide)) (by rfl) (pa_cons (pv 1) pa_nil)))) (pw_or (pt_not (pt_val (pe_fn h__law_apart_told (hr.mono (by decide)) (by rfl) (pa_cons (pv 1) pa_nil)))) (pw_or1 (pt_not (pt_val (pe_fn h__law_wides_told (hr.mono (by decide)) (by rfl) (pa_cons (pv 1) pa_nil)))))))) (pss_one (ps_ret pe_bl)) pss_nil)))
    (pss_one (ps_ret (pe_fn h__law_alike (hr.mono (by decide)) (by rfl) (pa_cons (pe_fnX0 h_laid (hr.mono (by decide)) (by rfl) (pa_cons (pe_lst (pa_cons pe_int (pa_cons pe_int pa_nil))) (pa_cons (pe_lst pa_nil) pa_nil))) (pa_cons (pe_tup (pa_cons pe_str (pa_cons (pe_lst pa_nil) pa_nil))) pa_nil))))))), ?_⟩
  exact (ss_seq (ss_asgO (se_callL (fun _ => RpAll.nil) (sr_cons (sd_at 0) sr_nil) (lenR_cons lenR_nil) rfl) rfl)
    (ss_seq (ss_for (sl_rng1 (sd_int _)) (sg_name 2) (ss_if (st_or (st_not (st_b (sd_im (se_callL (fun _ => RpAll.nil) (sr_cons (sd_at 1) sr_nil) (lenR_cons lenR_nil) rfl)))) (st_or (st_not (st_b (sd_im (se_callL (fun _ => RpAll.nil) (sr_cons (sd_at 1) sr_nil) (lenR_cons lenR_nil) rfl)))) (st_not (st_b (sd_im (se_callL (fun _ => RpAll.nil) (sr_cons (sd_at 1) sr_nil) (lenR_cons lenR_nil) rfl)))))) (ss_ret (sd_bl _)) ss_next) rfl)
    (ss_ret (sd_im (se_callL (fun _ => RpAll.nil) (sr_cons (se_callX0 (fun _ => RpAll.nil) (sr_cons (se_lst (sa_cons (sd_int _) (sa_cons (sd_int _) sa_nil))) (sr_cons (se_lst sa_nil) sr_nil)) (lenR_cons (lenR_cons lenR_nil)) rfl) (sr_cons (sd_ex (sd_tup (sa_cons (sd_str _) (sa_cons (sd_im (se_lst sa_nil)) sa_nil)))) sr_nil)) (lenR_cons (lenR_cons lenR_nil)) rfl)))))
end
end K05

set_option Elab.async false
set_option linter.all false
set_option maxRecDepth 100000
set_option maxHeartbeats 1000000
/-! EV: evaluating denotations -/
namespace DL
open PySem L2
def _root_.Option.bnd {α β : Type} (o : Option α) (f : α → Option β) : Option β := o.bind f
@[simp] theorem bnd_some {α β : Type} (a : α) (f : α → Option β) : (some a).bnd f = f a := id rfl
@[simp] theorem bnd_none {α β : Type} (f : α → Option β) : (none : Option α).bnd f = none := id rfl
theorem inRng_ex (j : Int) : ∃ b : Bool, b = true ↔ (-(2 ^ 62) ≤ j ∧ j < 2 ^ 62) := ⟨_, decide_eq_true_iff⟩
noncomputable def inRng (j : Int) : Bool := Classical.choose (inRng_ex j)
theorem inRng_iff {j : Int} : inRng j = true ↔ (-(2 ^ 62) ≤ j ∧ j < 2 ^ 62) := Classical.choose_spec (inRng_ex j)
theorem inRng_of {j : Int} (h1 : -1000000 ≤ j) (h2 : j ≤ 1000000) : inRng j = true := by
  rw [inRng_iff]
  omega
theorem inRng_nat {n : Nat} (h : n ≤ 1000000) : inRng (n : Int) = true := inRng_of (by omega) (by omega)
theorem okRg_ex (i j : Int) : ∃ b : Bool, b = cRg i j := ⟨_, rfl⟩
noncomputable def okRg (i j : Int) : Bool := Classical.choose (okRg_ex i j)
theorem okRg_eq (i j : Int) : okRg i j = cRg i j := Classical.choose_spec (okRg_ex i j)
theorem okRg_nat {n : Nat} (h : n ≤ 1000000) : okRg 0 (n : Int) = true := by
  rw [okRg_eq]
  unfold cRg
  rw [decide_eq_true_eq]
  omega
theorem okMul_ex (i j : Int) : ∃ b : Bool, b = cMulB i j := ⟨_, rfl⟩
noncomputable def okMul (i j : Int) : Bool := Classical.choose (okMul_ex i j)
theorem okMul_eq (i j : Int) : okMul i j = cMulB i j := Classical.choose_spec (okMul_ex i j)
theorem okMul_l {i j : Int} (h1 : -1000000000000 ≤ i) (h2 : i ≤ 1000000000000) : okMul i j = true := by
  rw [okMul_eq]
  unfold cMulB cMul
  rw [Bool.or_eq_true, Bool.or_eq_true, decide_eq_true_eq]
  exact .inl (.inl ⟨by omega, by omega⟩)
theorem okMul_r {i j : Int} (h1 : -1000000000000 ≤ j) (h2 : j ≤ 1000000000000) : okMul i j = true := by
  rw [okMul_eq]
  unfold cMulB cMul
  rw [Bool.or_eq_true, Bool.or_eq_true, decide_eq_true_eq, decide_eq_true_eq]
  exact .inl (.inr ⟨by omega, by omega⟩)
theorem okDiv_ex (i j : Int) : ∃ b : Bool, b = cDivB i j := ⟨_, rfl⟩
noncomputable def okDiv (i j : Int) : Bool := Classical.choose (okDiv_ex i j)
theorem okDiv_eq (i j : Int) : okDiv i j = cDivB i j := Classical.choose_spec (okDiv_ex i j)
theorem okDiv_of {i j : Int} (h1 : 0 < j) (h2 : j ≤ 1000000000000) : okDiv i j = true := by
  rw [okDiv_eq]
  unfold cDivB
  rw [Bool.and_eq_true, decide_eq_true_eq, decide_eq_true_eq]
  refine ⟨h1, ?_⟩
  have : j.natAbs < 2 ^ 50 := by omega
  exact Nat.lt_trans (Nat.log2_lt (by omega) |>.mpr this) (by decide)
def imOf (ρ : DEnv) : Option Sl → Option (PyData × DEnv)
  | some (.im d) => some (d, ρ)
  | _ => none
@[simp] theorem imOf_im (ρ d) : imOf ρ (some (.im d)) = some (d, ρ) := id rfl
def fzOf (i : Nat) (ρ : DEnv) : Option Sl → Option (PyData × DEnv)
  | some (.im d) => some (d, ρ)
  | some (.ow (.lst ds)) => some (.list ds, ρ.set i (.im (.list ds)))
  | _ => none
@[simp] theorem fzOf_im (i ρ d) : fzOf i ρ (some (.im d)) = some (d, ρ) := id rfl
@[simp] theorem fzOf_ow (i ρ ds) : fzOf i ρ (some (.ow (.lst ds))) = some (.list ds, ρ.set i (.im (.list ds))) := id rfl
def atOf (i : Nat) (ρ : DEnv) : Option Sl → Option (Val × DEnv)
  | some (.ow _) => some (.at i, ρ)
  | some (.scr _) => some (.at i, ρ)
  | _ => none
@[simp] theorem atOf_ow (i ρ d) : atOf i ρ (some (.ow d)) = some (.at i, ρ) := id rfl
@[simp] theorem atOf_scr (i ρ d) : atOf i ρ (some (.scr d)) = some (.at i, ρ) := id rfl
def frz : Val → Option Val
  | .nw (.lst ds) => some (.im (.list ds))
  | .nw _ => none
  | v => some v
@[simp] theorem frz_nw (ds) : frz (.nw (.lst ds)) = some (.im (.list ds)) := id rfl
@[simp] theorem frz_im (d) : frz (.im d) = some (.im d) := id rfl
@[simp] theorem frz_at (i) : frz (.at i) = some (.at i) := id rfl
def seqG (b : DS) : Option (Fl × DEnv) → Option (Fl × DEnv)
  | some (.nx, ρ) => b ρ
  | some (fl, ρ) => some (fl, ρ)
  | none => none
@[simp] theorem seqG_nx (b ρ) : seqG b (some (.nx, ρ)) = b ρ := id rfl
@[simp] theorem seqG_xc (c d b ρ) : seqG b (some (.xc c d, ρ)) = some (.xc c d, ρ) := id rfl
@[simp] theorem seqG_rt (s b ρ) : seqG b (some (.rt s, ρ)) = some (.rt s, ρ) := id rfl
@[simp] theorem seqG_bk (b ρ) : seqG b (some (.bk, ρ)) = some (.bk, ρ) := id rfl
@[simp] theorem seqG_ct (b ρ) : seqG b (some (.ct, ρ)) = some (.ct, ρ) := id rfl
def ifG {α : Type} (a b : DEnv → Option (α × DEnv)) : Option (Bool × DEnv) → Option (α × DEnv)
  | some (x, ρ) => if x = true then a ρ else b ρ
  | none => none
@[simp] theorem ifG_some {α : Type} (a b : DEnv → Option (α × DEnv)) (x ρ) : ifG a b (some (x, ρ)) = if x = true then a ρ else b ρ := id rfl
def andG (b : DT) : Option (Bool × DEnv) → Option (Bool × DEnv)
  | some (x, ρ) => if x = true then b ρ else some (false, ρ)
  | none => none
@[simp] theorem andG_some (b x ρ) : andG b (some (x, ρ)) = if x = true then b ρ else some (false, ρ) := id rfl
def orG (b : DT) : Option (Bool × DEnv) → Option (Bool × DEnv)
  | some (x, ρ) => if x = true then some (true, ρ) else b ρ
  | none => none
@[simp] theorem orG_some (b x ρ) : orG b (some (x, ρ)) = if x = true then some (true, ρ) else b ρ := id rfl
def forG (g : DG) (b : DS) : Option (List PyData × DEnv) → Option (Fl × DEnv)
  | some (ds, ρ) => dLoop g b ds ρ
  | none => none
@[simp] theorem forG_some (g b ds ρ) : forG g b (some (ds, ρ)) = dLoop g b ds ρ := id rfl
def callI (vs : List Val) (ρ : DEnv) : Option (Sl × List Sl) → Option (Val × DEnv)
  | some (s, as) => (resVal s).map fun v => (v, putArgs vs as ρ)
  | none => none
def callH (m : FS) (dds : List PyData) (vs : List Val) : Option (List Sl × DEnv) → Option (Val × DEnv)
  | some (ts, ρ) => callI vs ρ (m (ts ++ dds.map .im))
  | none => none
def callG (m : FS) (dds : List PyData) : Option (List Val × DEnv) → Option (Val × DEnv)
  | some (vs, ρ) => callH m dds vs (takeArgs vs ρ)
  | none => none
@[simp] theorem callI_some (vs ρ s as) : callI vs ρ (some (s, as)) = (resVal s).map fun v => (v, putArgs vs as ρ) := id rfl
@[simp] theorem callH_some (m dds vs ts ρ) : callH m dds vs (some (ts, ρ)) = callI vs ρ (m (ts ++ dds.map .im)) := id rfl
@[simp] theorem callG_some (m dds vs ρ) : callG m dds (some (vs, ρ)) = callH m dds vs (takeArgs vs ρ) := id rfl
def opH (f : PyData → PyData → Option PyData) (x : PyData) : Option (PyData × DEnv) → Option (PyData × DEnv)
  | some (y, ρ) => (f x y).map (·, ρ)
  | none => none
def opG (f : PyData → PyData → Option PyData) (b : DI) : Option (PyData × DEnv) → Option (PyData × DEnv)
  | some (x, ρ) => opH f x (b ρ)
  | none => none
@[simp] theorem opH_some (f x y ρ) : opH f x (some (y, ρ)) = (f x y).map (·, ρ) := id rfl
@[simp] theorem opG_some (f b x ρ) : opG f b (some (x, ρ)) = opH f x (b ρ) := id rfl
def opM (f : PyData → PyData → Option PyData) (i : Nat) : Option (PyData × DEnv) → Option (PyData × DEnv)
  | some (y, ρ) => (view ρ[i]?).bind fun x => (f x y).map (·, ρ)
  | none => none
@[simp] theorem opM_some (f i y ρ) : opM f i (some (y, ρ)) = (view ρ[i]?).bnd fun x => (f x y).map (·, ρ) := id rfl
def opNG (f : PyData → PyData → Option PyData) (i : Nat) (b : DI) (ρ : DEnv) : Option PyData → Option (PyData × DEnv)
  | some _ => opM f i (b ρ)
  | none => none
@[simp] theorem opNG_some (f i b ρ x) : opNG f i b ρ (some x) = opM f i (b ρ) := id rfl
def consR2 (v : Val) : Option (List Val × DEnv) → Option (List Val × DEnv)
  | some (vs, ρ) => some (v :: vs, ρ)
  | none => none
@[simp] theorem consR2_some (v vs ρ) : consR2 v (some (vs, ρ)) = some (v :: vs, ρ) := id rfl
def consR1 (b : DAr) (ρ : DEnv) : Option Val → Option (List Val × DEnv)
  | some v => consR2 v (b ρ)
  | none => none
@[simp] theorem consR1_some (b ρ v) : consR1 b ρ (some v) = consR2 v (b ρ) := id rfl
def consRG (b : DAr) : Option (Val × DEnv) → Option (List Val × DEnv)
  | some (v, ρ) => consR1 b ρ (frz v)
  | none => none
@[simp] theorem consRG_some (b v ρ) : consRG b (some (v, ρ)) = consR1 b ρ (frz v) := id rfl
def cons2 (v : PyData) : Option (List PyData × DEnv) → Option (List PyData × DEnv)
  | some (vs, ρ) => some (v :: vs, ρ)
  | none => none
@[simp] theorem cons2_some (v vs ρ) : cons2 v (some (vs, ρ)) = some (v :: vs, ρ) := id rfl
def consG (b : DA) : Option (PyData × DEnv) → Option (List PyData × DEnv)
  | some (v, ρ) => cons2 v (b ρ)
  | none => none
@[simp] theorem consG_some (b v ρ) : consG b (some (v, ρ)) = cons2 v (b ρ) := id rfl
def chE (g : PyData → PyData → Option PyData) (y : PyData) : Option (PyData × DEnv) → Option (PyData × DEnv)
  | some (z, ρ) => (g y z).map (·, ρ)
  | none => none
@[simp] theorem chE_some (g y z ρ) : chE g y (some (z, ρ)) = (g y z).map (·, ρ) := id rfl
def chD (g : PyData → PyData → Option PyData) (y : PyData) (c : DI) (ρ : DEnv) : Option Bool → Option (PyData × DEnv)
  | some k => if k = true then chE g y (c ρ) else some (.bool false, ρ)
  | none => none
@[simp] theorem chD_some (g y c ρ k) : chD g y c ρ (some k) = if k = true then chE g y (c ρ) else some (.bool false, ρ) := id rfl
def chB (f g : PyData → PyData → Option PyData) (x : PyData) (c : DI) : Option (PyData × DEnv) → Option (PyData × DEnv)
  | some (y, ρ) => chD g y c ρ ((f x y).bind toB)
  | none => none
@[simp] theorem chB_some (f g x c y ρ) : chB f g x c (some (y, ρ)) = chD g y c ρ ((f x y).bnd toB) := id rfl
def chA (f g : PyData → PyData → Option PyData) (b c : DI) : Option (PyData × DEnv) → Option (PyData × DEnv)
  | some (x, ρ) => chB f g x c (b ρ)
  | none => none
@[simp] theorem chA_some (f g b c x ρ) : chA f g b c (some (x, ρ)) = chB f g x c (b ρ) := id rfl
def retOf (i : Nat) (ρ : DEnv) : Option Sl → Option (Fl × DEnv)
  | some (.ow o) => some (.rt (.ow o), ρ.set i .un)
  | _ => none
@[simp] theorem retOf_ow (i ρ o) : retOf i ρ (some (.ow o)) = some (.rt (.ow o), ρ.set i .un) := id rfl
def intOf : Option Sl → Option Int
  | some (.im (.int x)) => some x
  | _ => none
@[simp] theorem intOf_im (x) : intOf (some (.im (.int x))) = some x := id rfl
def lstOf : Val → Option (List PyData)
  | .nw (.lst ds) => some ds
  | _ => none
@[simp] theorem lstOf_nw (ds) : lstOf (.nw (.lst ds)) = some ds := id rfl
def taK (vs : List Val) (i : Nat) (ρ : DEnv) : Option Sl → Option (List Sl × DEnv)
  | some (.ow o) => (takeArgs vs (ρ.set i .un)).map fun r => (.ow o :: r.1, r.2)
  | some (.scr ns) => (takeArgs vs ρ).map fun r => (.scr ns :: r.1, r.2)
  | _ => none
@[simp] theorem taK_ow (vs i ρ o) : taK vs i ρ (some (.ow o)) = (takeArgs vs (ρ.set i .un)).map fun r => (.ow o :: r.1, r.2) := id rfl
@[simp] theorem taK_scr (vs i ρ ns) : taK vs i ρ (some (.scr ns)) = (takeArgs vs ρ).map fun r => (.scr ns :: r.1, r.2) := id rfl
def fnO (own : List Nat) (k : Nat) (ρ : DEnv) : Fl → Option (Sl × List Sl)
  | .nx => some (.im .none, maskO own 0 k ρ)
  | .rt s => some (s, maskO own 0 k ρ)
  | _ => none
section
variable (ρ : DEnv)
@[simp] theorem e_dVar (i) : dVar i ρ = imOf ρ ρ[i]? := by
  unfold dVar imOf
  rcases ρ[i]? with _ | (_ | _ | _ | _) <;> rfl
@[simp] theorem e_dVw (i) : dVw i ρ = (view ρ[i]?).map (·, ρ) := id rfl
@[simp] theorem e_dFz (i) : dFz i ρ = fzOf i ρ ρ[i]? := by
  unfold dFz fzOf
  rcases ρ[i]? with _ | (_ | _ | (_ | _ | _ | _) | _) <;> rfl
@[simp] theorem e_dC (d) : dC d ρ = some (d, ρ) := id rfl
@[simp] theorem e_dIm (e) : dIm e ρ = (e ρ).bnd fun r => (asIm r.1).map (·, r.2) := id rfl
@[simp] theorem e_dEx (e) : dEx e ρ = (e ρ).map fun r => (.im r.1, r.2) := id rfl
@[simp] theorem e_dAt (i) : dAt i ρ = atOf i ρ ρ[i]? := by
  unfold dAt atOf
  rcases ρ[i]? with _ | (_ | _ | _ | _) <;> rfl
@[simp] theorem e_dOp (f a b) : dOp f a b ρ = opG f b (a ρ) := by
  unfold dOp opG
  rcases a ρ with _ | ⟨x, ρ⟩
  · rfl
  · rw [Option.bind_some]
    dsimp only
    unfold opH
    rcases b ρ with _ | ⟨_, _⟩ <;> rfl
@[simp] theorem e_dOpN (f i b) : dOpN f i b ρ = opNG f i b ρ (view ρ[i]?) := by
  unfold dOpN opNG
  rcases view ρ[i]? with _ | x
  · rfl
  · rw [Option.bind_some]
    dsimp only
    unfold opM
    rcases b ρ with _ | ⟨_, _⟩ <;> rfl
@[simp] theorem e_dUn (f a) : dUn f a ρ = (a ρ).bnd fun r => (f r.1).map (·, r.2) := id rfl
@[simp] theorem e_dNil : dNil ρ = some ([], ρ) := id rfl
@[simp] theorem e_dCons (a b) : dCons a b ρ = consG b (a ρ) := by
  unfold dCons consG
  rcases a ρ with _ | ⟨v, ρ⟩
  · rfl
  · rw [Option.bind_some]
    dsimp only
    unfold cons2
    rcases b ρ with _ | ⟨_, _⟩ <;> rfl
@[simp] theorem e_dNilR : dNilR ρ = some ([], ρ) := id rfl
@[simp] theorem e_dConsR (a b) : dConsR a b ρ = consRG b (a ρ) := by
  unfold dConsR consRG
  rcases a ρ with _ | ⟨v, ρ⟩
  · rfl
  · rw [Option.bind_some]
    dsimp only
    rcases v with _ | _ | (_ | _ | _ | _) <;> (try rfl) <;> dsimp only [frz, consR1] <;> unfold consR2 <;> rcases b ρ with _ | ⟨_, _⟩ <;> rfl
@[simp] theorem e_dTup (a) : dTup a ρ = (a ρ).bnd fun r => if r.1.length ≤ sizeLine then some (.tuple r.1, r.2) else none := id rfl
@[simp] theorem e_dLst (a) : dLst a ρ = (a ρ).bnd fun r => if r.1.length ≤ sizeLine then some (.nw (.lst r.1), r.2) else none := id rfl
@[simp] theorem e_dTest (a) : dTest a ρ = (a ρ).bnd fun r => (toB r.1).map (·, r.2) := id rfl
@[simp] theorem e_dAnd (a b) : dAnd a b ρ = andG b (a ρ) := by
  unfold dAnd andG
  rcases a ρ with _ | ⟨_, _⟩ <;> rfl
@[simp] theorem e_dOr (a b) : dOr a b ρ = orG b (a ρ) := by
  unfold dOr orG
  rcases a ρ with _ | ⟨_, _⟩ <;> rfl
@[simp] theorem e_dNot (a) : dNot a ρ = (a ρ).map fun r => (!r.1, r.2) := id rfl
@[simp] theorem e_dAndV (a b) : dAndV a b ρ = (a ρ).bnd fun r => (toB r.1).bnd fun c => if c = true then b r.2 else some (.bool false, r.2) := id rfl
@[simp] theorem e_dOrV (a b) : dOrV a b ρ = (a ρ).bnd fun r => (toB r.1).bnd fun c => if c = true then some (.bool true, r.2) else b r.2 := id rfl
@[simp] theorem e_dNotV (a) : dNotV a ρ = (a ρ).bnd fun r => (toB r.1).map fun c => (.bool (!c), r.2) := id rfl
@[simp] theorem e_dIf (c a b) : dIf c a b ρ = ifG a b (c ρ) := by
  unfold dIf ifG
  rcases c ρ with _ | ⟨_, _⟩ <;> rfl
@[simp] theorem e_dChain (f g a b c) : dChain f g a b c ρ = chA f g b c (a ρ) := by
  unfold dChain chA
  rcases a ρ with _ | ⟨x, ρ⟩
  · rfl
  · rw [Option.bind_some]
    dsimp only
    unfold chB
    rcases b ρ with _ | ⟨y, ρ⟩
    · rfl
    · rw [Option.bind_some]
      dsimp only
      unfold chD
      rcases f x y with _ | z
      · rfl
      · rw [Option.bind_some, Option.bind_some]
        rcases toB z with _ | k
        · rfl
        · rw [Option.bind_some]
          dsimp only
          cases k
          · rfl
          · rw [if_pos rfl, if_pos rfl]
            unfold chE
            rcases c ρ with _ | ⟨_, _⟩ <;> rfl
@[simp] theorem e_dChain3 (f g h a b c e) : dChain3 f g h a b c e ρ = (a ρ).bnd fun r => (b r.2).bnd fun s => (f r.1 s.1).bnd fun z => (toB z).bnd fun k =>
  if k = true then (c s.2).bind fun t => (g s.1 t.1).bind fun z2 => (toB z2).bind fun k2 => if k2 = true then (e t.2).bind fun w => (h t.1 w.1).map (·, w.2) else some (.bool false, t.2) else some (.bool false, s.2) := id rfl
@[simp] theorem e_dNoPart : dNoPart ρ = some (none, ρ) := id rfl
@[simp] theorem e_dPart (a) : dPart a ρ = (a ρ).bnd fun r => (toI r.1).map fun i => (some i, r.2) := id rfl
@[simp] theorem e_dNext : dNext ρ = some (.nx, ρ) := id rfl
@[simp] theorem e_dSeq (a b) : dSeq a b ρ = seqG b (a ρ) := by
  unfold dSeq seqG
  rcases a ρ with _ | ⟨_ | _ | _ | _ | _, _⟩ <;> rfl
@[simp] theorem e_dAsg (i e) : dAsg i e ρ = (e ρ).map fun r => (.nx, r.2.set i (.im r.1)) := id rfl
@[simp] theorem e_dAsgO (i e) : dAsgO i e ρ = (e ρ).bnd fun r => (asOw r.1).map fun o => (.nx, r.2.set i (.ow o)) := id rfl
@[simp] theorem e_dPar (i j a) : dPar i j a ρ = (a ρ).bnd fun r => (two r.1).map fun p => (.nx, (r.2.set i (.im p.1)).set j (.im p.2)) := id rfl
@[simp] theorem e_dParOI (i j a b) : dParOI i j a b ρ = (a ρ).bnd fun r => (lstOf r.1).bnd fun ds => (b r.2).map fun s => (.nx, (s.2.set i (.ow (.lst ds))).set j (.im s.1)) := by
  unfold dParOI lstOf
  rcases a ρ with _ | ⟨_ | _ | (_ | _ | _ | _), _⟩ <;> rfl
@[simp] theorem e_dAsgG (e g) : dAsgG e g ρ = (e ρ).bnd fun r => (g r.1 r.2).map fun ρ' => (.nx, ρ') := id rfl
@[simp] theorem e_dName (i x) : dName i x ρ = some (ρ.set i (.im x)) := id rfl
@[simp] theorem e_dGNil : dGNil [] ρ = some ρ := id rfl
@[simp] theorem e_dGCons (g gs x xs) : dGCons g gs (x :: xs) ρ = (g x ρ).bnd fun ρ' => gs xs ρ' := id rfl
@[simp] theorem e_dGTup (n gs x) : dGTup n gs x ρ = (asTup x).bnd fun xs => if xs.length = n then gs xs ρ else none := id rfl
@[simp] theorem e_dGSub (i b x) : dGSub i b x ρ = (ownL ρ[i]?).bnd fun _ => (b ρ).bnd fun s => (toI s.1).bnd fun k => (ownL s.2[i]?).bnd fun ds => (ixN ds.length k).map fun j => s.2.set i (.ow (.lst (ds.set j x))) := id rfl
@[simp] theorem e_dIfS (c a b) : dIfS c a b ρ = ifG a b (c ρ) := by
  unfold dIfS ifG
  rcases c ρ with _ | ⟨_, _⟩ <;> rfl
@[simp] theorem e_dRet (e) : dRet e ρ = (e ρ).map fun r => (.rt (.im r.1), r.2) := id rfl
@[simp] theorem e_dRetO (i) : dRetO i ρ = retOf i ρ ρ[i]? := by
  unfold dRetO retOf
  rcases ρ[i]? with _ | (_ | _ | _ | _) <;> rfl
@[simp] theorem e_dRetE (e) : dRetE e ρ = (e ρ).bnd fun r => (asOw r.1).map fun o => (.rt (.ow o), r.2) := id rfl
@[simp] theorem e_dRetN : dRetN ρ = some (.rt (.im .none), ρ) := id rfl
@[simp] theorem e_dBreak : dBreak ρ = some (.bk, ρ) := id rfl
@[simp] theorem e_dCont : dCont ρ = some (.ct, ρ) := id rfl
@[simp] theorem e_dDrop (e) : dDrop e ρ = (e ρ).map fun r => (.nx, r.2) := id rfl
@[simp] theorem e_dAug (i f e) : dAug i f e ρ = (intOf ρ[i]?).bnd fun x => (e ρ).bnd fun r => (toI r.1).map fun y => (.nx, r.2.set i (.im (.int (f x y)))) := by
  unfold dAug intOf
  rcases ρ[i]? with _ | (_ | (_ | _ | _ | _ | _ | _ | _ | _) | _ | _) <;> rfl
@[simp] theorem e_dFor (l g b) : dFor l g b ρ = forG g b (l ρ) := by
  unfold dFor forG
  rcases l ρ with _ | ⟨_, _⟩ <;> rfl
@[simp] theorem e_dItL (e) : dItL e ρ = (e ρ).bnd fun r => (asLst r.1).map (·, r.2) := id rfl
@[simp] theorem e_dItT (e) : dItT e ρ = (e ρ).bnd fun r => (asTup r.1).map (·, r.2) := id rfl
@[simp] theorem e_dEnum (e) : dEnum e ρ = (e ρ).bnd fun r => (asLst r.1).map fun ds => (ds.zipIdx.map fun p => .tuple [.int (p.2 : Int), p.1], r.2) := id rfl
@[simp] theorem e_dZip (a b) : dZip a b ρ = (a ρ).bnd fun r => (b r.2).bnd fun s => (asLst r.1).bnd fun xs => (asLst s.1).map fun ys => ((xs.zip ys).map fun p => .tuple [p.1, p.2], s.2) := id rfl
@[simp] theorem e_dRng1 (e) : dRng1 e ρ = (e ρ).bnd fun r => (toI r.1).bnd fun j => if inRng j = true then some (rng 0 j.toNat, r.2) else none := by
  unfold dRng1
  congr 1
  funext r
  congr 1
  funext j
  by_cases h : -(2 ^ 62) ≤ j ∧ j < 2 ^ 62
  · rw [if_pos h, if_pos (inRng_iff.mpr h)]
  · rw [if_neg h, if_neg fun q => h (inRng_iff.mp q)]
@[simp] theorem e_dRng2 (a b) : dRng2 a b ρ = (a ρ).bnd fun r => (b r.2).bnd fun s => (toI r.1).bnd fun i => (toI s.1).bnd fun j => if inRng i = true ∧ inRng j = true then some (rng i (j - i).toNat, s.2) else none := by
  unfold dRng2
  congr 1
  funext r
  congr 1
  funext s
  congr 1
  funext i
  congr 1
  funext j
  by_cases h : -(2 ^ 62) ≤ i ∧ i < 2 ^ 62 ∧ -(2 ^ 62) ≤ j ∧ j < 2 ^ 62
  · rw [if_pos h, if_pos ⟨inRng_iff.mpr ⟨h.1, h.2.1⟩, inRng_iff.mpr h.2.2⟩]
  · rw [if_neg h, if_neg fun q => h ⟨(inRng_iff.mp q.1).1, (inRng_iff.mp q.1).2, inRng_iff.mp q.2⟩]
@[simp] theorem e_dLc (l g t e vs) : dLc l g t e vs ρ = (l ρ).bnd fun r => (dTurns g t e vs r.1 (wipeD r.2 vs) []).map fun s => (.nw (.lst s.1), s.2) := id rfl
@[simp] theorem e_dYes : dYes ρ = some (true, ρ) := id rfl
@[simp] theorem e_dSl (f a lo hi) : dSl f a lo hi ρ = (a ρ).bnd fun r => (lo r.2).bnd fun l => (hi l.2).bnd fun h => (f r.1 l.1 h.1).map (·, h.2) := id rfl
@[simp] theorem e_dSlN (f i lo hi) : dSlN f i lo hi ρ = (view ρ[i]?).bnd fun _ => (lo ρ).bnd fun l => (hi l.2).bnd fun h => (view h.2[i]?).bnd fun x => (f x l.1 h.1).map (·, h.2) := id rfl
@[simp] theorem e_dScrSl (i lo hi) : dScrSl i lo hi ρ = (scrOf ρ[i]?).bnd fun ns => (lo ρ).bnd fun l => (hi l.2).map fun h => (.list (cutD (ns.map .int) l.1 h.1), h.2) := id rfl
@[simp] theorem e_dCall (m dds a) : dCall m dds a ρ = callG m dds (a ρ) := by
  unfold dCall callG
  rcases a ρ with _ | ⟨vs, ρ⟩
  · rfl
  · rw [Option.bind_some]
    dsimp only
    unfold callH
    rcases takeArgs vs ρ with _ | ⟨ts, ρ⟩
    · rfl
    · rw [Option.bind_some]
      dsimp only
      unfold callI
      rcases m (ts ++ List.map Sl.im dds) with _ | ⟨_, _⟩ <;> rfl
@[simp] theorem e_dApp (i e) : dApp i e ρ = (ownL ρ[i]?).bnd fun _ => (e ρ).bnd fun r => (ownL r.2[i]?).bnd fun ds => if ds.length < sizeLine then some (.nx, r.2.set i (.ow (.lst (ds ++ [r.1])))) else none := id rfl
@[simp] theorem e_dSet (i e b) : dSet i e b ρ = (e ρ).bnd fun r => (ownL r.2[i]?).bnd fun _ => (b r.2).bnd fun s => (toI s.1).bnd fun k => (ownL s.2[i]?).bnd fun ds => (ixN ds.length k).map fun j => (.nx, s.2.set i (.ow (.lst (ds.set j r.1)))) := id rfl
@[simp] theorem e_dAugL (i f b e) : dAugL i f b e ρ = (ownL ρ[i]?).bnd fun _ => (b ρ).bnd fun s => (toI s.1).bnd fun k => (ownL s.2[i]?).bnd fun ds => (atI ds k).bnd fun x => (toI x).bnd fun x => (e s.2).bnd fun r => (toI r.1).bnd fun y =>
  (ownL r.2[i]?).bnd fun ds2 => (ixN ds2.length k).map fun j => (.nx, r.2.set i (.ow (.lst (ds2.set j (.int (f x y)))))) := id rfl
@[simp] theorem e_dPop (i) : dPop i ρ = (ownL ρ[i]?).bnd fun ds => (ds[ds.length - 1]?).map fun x => (x, ρ.set i (.ow (.lst ds.dropLast))) := id rfl
@[simp] theorem e_dIns (i b e) : dIns i b e ρ = (ownL ρ[i]?).bnd fun _ => (b ρ).bnd fun s => (toI s.1).bnd fun k => (e s.2).bnd fun r => (ownL r.2[i]?).bnd fun ds => if ds.length < sizeLine ∧ 0 ≤ k ∧ k < 2 ^ 63 then some (.nx, r.2.set i (.ow (.lst (ds.take k.toNat ++ [r.1] ++ ds.drop k.toNat)))) else none := id rfl
@[simp] theorem e_dExt (i e) : dExt i e ρ = (ownL ρ[i]?).bnd fun _ => (e ρ).bnd fun r => (asLst r.1).bnd fun es => (ownL r.2[i]?).bnd fun ds => if ds.length + es.length ≤ sizeLine then some (.nx, r.2.set i (.ow (.lst (ds ++ es)))) else none := id rfl
@[simp] theorem e_dNewK : dNewK ρ = some (.nw (.dic []), ρ) := id rfl
@[simp] theorem e_dNewT : dNewT ρ = some (.nw (.dct []), ρ) := id rfl
@[simp] theorem e_dDisp1 (k v) : dDisp1 k v ρ = (k ρ).bnd fun r => (keyD r.1).bnd fun key => (v r.2).map fun s => (.nw (.dic [(key, s.1)]), s.2) := id rfl
@[simp] theorem e_dDIn (n i e) : dDIn n i e ρ = (e ρ).bnd fun r => (keyD r.1).bnd fun k => (ownD r.2[i]?).map fun kvs => (.bool (if n then !(valD kvs k).isSome else (valD kvs k).isSome), r.2) := id rfl
@[simp] theorem e_dTIn (n i e) : dTIn n i e ρ = (e ρ).bnd fun r => (keyT r.1).bnd fun k => (ownT r.2[i]?).map fun kvs => (.bool (if n then !(valD kvs k).isSome else (valD kvs k).isSome), r.2) := id rfl
@[simp] theorem e_dDGet (i e) : dDGet i e ρ = (ownD ρ[i]?).bnd fun _ => (e ρ).bnd fun r => (keyD r.1).bnd fun k => (ownD r.2[i]?).bnd fun kvs => (valD kvs k).map (·, r.2) := id rfl
@[simp] theorem e_dDPut (i e v) : dDPut i e v ρ = (v ρ).bnd fun r => (ownD r.2[i]?).bnd fun _ => (e r.2).bnd fun s => (keyD s.1).bnd fun k => (ownD s.2[i]?).bnd fun kvs => if kvs.length < sizeLine then some (.nx, s.2.set i (.ow (.dic (putD kvs k r.1)))) else none := id rfl
@[simp] theorem e_dTPut (i e v) : dTPut i e v ρ = (v ρ).bnd fun r => (ownT r.2[i]?).bnd fun _ => (e r.2).bnd fun s => (keyT s.1).bnd fun k => (ownT s.2[i]?).bnd fun kvs => if kvs.length < sizeLine then some (.nx, s.2.set i (.ow (.dct (putD kvs k r.1)))) else none := id rfl
@[simp] theorem e_dSortD (i) : dSortD i ρ = (ownD ρ[i]?).bnd fun kvs => (intKeys kvs).map fun ks => (.list ((isort ks).map .int), ρ) := id rfl
@[simp] theorem e_dIsi (c a) : dIsi c a ρ = (a ρ).bnd fun r => (kindOf r.1).bnd fun k => (kitB k c).map fun b => (.bool b, r.2) := id rfl
@[simp] theorem e_dListRg1 (e) : dListRg1 e ρ = (e ρ).bnd fun r => (toI r.1).bnd fun n => if okRg 0 n = true then some (.nw (.lst (rngL 0 n)), r.2) else none := by
  unfold dListRg1
  simp only [okRg_eq]
  rfl
@[simp] theorem e_dNewL (f a) : dNewL f a ρ = (a ρ).bnd fun r => (f r.1).map fun ds => (.nw (.lst ds), r.2) := id rfl
@[simp] theorem e_dIdx (i e) : dIdx i e ρ = ((view ρ[i]?).bnd asLst).bnd fun _ => (e ρ).bnd fun s => (view s.2[i]?).bnd fun x => (fIdx x s.1).map (·, s.2) := id rfl
end
@[simp] theorem v_im (d) : view (some (.im d)) = some d := id rfl
@[simp] theorem v_ow (d) : view (some (.ow (.lst d))) = some (.list d) := id rfl
@[simp] theorem ol_ow (d) : ownL (some (.ow (.lst d))) = some d := id rfl
@[simp] theorem od_ow (d) : ownD (some (.ow (.dic d))) = some d := id rfl
@[simp] theorem ot_ow (d) : ownT (some (.ow (.dct d))) = some d := id rfl
@[simp] theorem so_sc (d) : scrOf (some (.scr d)) = some d := id rfl
@[simp] theorem ai_im (d) : asIm (.im d) = some d := id rfl
@[simp] theorem ai_nw (d) : asIm (.nw (.lst d)) = some (.list d) := id rfl
@[simp] theorem ao_nw (d) : asOw (.nw d) = some d := id rfl
@[simp] theorem tb_b (b) : toB (.bool b) = some b := id rfl
@[simp] theorem ti_i (i) : toI (.int i) = some i := id rfl
@[simp] theorem al_l (d) : asLst (.list d) = some d := id rfl
@[simp] theorem at_t (d) : asTup (.tuple d) = some d := id rfl
@[simp] theorem tw_2 (a b) : two [a, b] = some (a, b) := id rfl
@[simp] theorem so_l (d) : seqOf (.list d) = some d := id rfl
@[simp] theorem so_t (d) : seqOf (.tuple d) = some d := id rfl
@[simp] theorem rv_im (d) : resVal (.im d) = some (.im d) := id rfl
@[simp] theorem rv_ow (d) : resVal (.ow d) = some (.nw d) := id rfl
@[simp] theorem kd_i (i) : keyD (.int i) = some (.inl i) := id rfl
@[simp] theorem ta_nil (ρ) : takeArgs [] ρ = some ([], ρ) := id rfl
@[simp] theorem ta_im (d vs ρ) : takeArgs (.im d :: vs) ρ = (takeArgs vs ρ).map fun r => (.im d :: r.1, r.2) := id rfl
@[simp] theorem ta_at (i vs ρ) : takeArgs (.at i :: vs) ρ = taK vs i ρ ρ[i]? := by
  rw [takeArgs]
  unfold taK
  rcases ρ[i]? with _ | (_ | _ | _ | _) <;> rfl
@[simp] theorem pa_nil' (as ρ) : putArgs [] as ρ = ρ := by cases as <;> rfl
@[simp] theorem pa_im (d vs a as ρ) : putArgs (.im d :: vs) (a :: as) ρ = putArgs vs as ρ := by cases a <;> rfl
@[simp] theorem pa_at (i vs o as ρ) : putArgs (.at i :: vs) (.ow o :: as) ρ = putArgs vs as (ρ.set i (.ow o)) := id rfl
@[simp] theorem pa_atu (i vs as ρ) : putArgs (.at i :: vs) (.un :: as) ρ = putArgs vs as ρ := id rfl
@[simp] theorem f_add (i j) : fAddAny (.int i) (.int j) = some (.int (i + j)) := id rfl
@[simp] theorem f_catl (i j) : fAddAny (.list i) (.list j) = if i.length + j.length ≤ sizeLine then some (.list (i ++ j)) else none := id rfl
@[simp] theorem f_catt (i j) : fAddAny (.tuple i) (.tuple j) = if i.length + j.length ≤ sizeLine then some (.tuple (i ++ j)) else none := id rfl
@[simp] theorem f_sub (i j) : fSub (.int i) (.int j) = some (.int (i - j)) := id rfl
@[simp] theorem f_mul (i j) : fMulAny (.int i) (.int j) = if okMul i j = true then some (.int (i * j)) else none := by
  rw [okMul_eq]
  rfl
@[simp] theorem f_div (i j) : fDivB (.int i) (.int j) = if okDiv i j = true then some (.int (i / j)) else none := by
  rw [okDiv_eq]
  rfl
@[simp] theorem f_mod (i j) : fMod (.int i) (.int j) = if decide (0 < j) = true then some (.int (i % j)) else none := id rfl
@[simp] theorem f_lt (i j) : fLt (.int i) (.int j) = some (.bool (decide (i < j))) := id rfl
@[simp] theorem f_le (i j) : fLe (.int i) (.int j) = some (.bool (decide (i ≤ j))) := id rfl
@[simp] theorem f_gt (i j) : fGt (.int i) (.int j) = some (.bool (decide (j < i))) := id rfl
@[simp] theorem f_ge (i j) : fGe (.int i) (.int j) = some (.bool (decide (j ≤ i))) := id rfl
@[simp] theorem f_neg (i) : fNeg (.int i) = some (.int (-i)) := id rfl
@[simp] theorem f_abs (i) : fAbs (.int i) = some (.int (if i < 0 then -i else i)) := id rfl
@[simp] theorem f_max2 (i j) : fMax2 (.int i) (.int j) = some (.int (if j > i then j else i)) := id rfl
@[simp] theorem f_min2 (i j) : fMin2 (.int i) (.int j) = some (.int (if j < i then j else i)) := id rfl
@[simp] theorem f_lenl (d) : fLenAny (.list d) = some (.int (d.length : Int)) := id rfl
@[simp] theorem f_lent (d) : fLenAny (.tuple d) = some (.int (d.length : Int)) := id rfl
@[simp] theorem f_ixl (d i) : fIxAny (.list d) (.int i) = atI d i := id rfl
@[simp] theorem f_ixt (d i) : fIxAny (.tuple d) (.int i) = atI d i := id rfl
@[simp] theorem f_eq (d e) : fEq d e = (eqD d e).map .bool := id rfl
@[simp] theorem f_ne (d e) : fNe d e = (eqD d e).map fun b => .bool (!b) := id rfl
@[simp] theorem q_ii (i j) : eqD (.int i) (.int j) = some (decide (i = j)) := id rfl
@[simp] theorem q_bb (i j) : eqD (.bool i) (.bool j) = some (decide (i = j)) := id rfl
@[simp] theorem q_ss (i j) : eqD (.str i) (.str j) = some (decide (i = j)) := id rfl
@[simp] theorem q_ni (i) : eqD .none (.int i) = some false := id rfl
@[simp] theorem q_in (i) : eqD (.int i) .none = some false := id rfl
@[simp] theorem q_nn : eqD .none .none = some true := id rfl
@[simp] theorem f_is (d) : fIs d .none = some (.bool (isNone d)) := id rfl
@[simp] theorem f_isnot (d) : fIsNot d .none = some (.bool (!isNone d)) := id rfl
@[simp] theorem n_n : isNone .none = true := id rfl
@[simp] theorem n_i (i) : isNone (.int i) = false := id rfl
@[simp] theorem n_t (i) : isNone (.tuple i) = false := id rfl
@[simp] theorem f_in (d e) : fIn d e = (inD d e).map .bool := id rfl
@[simp] theorem f_notin (d e) : fNotIn d e = (inD d e).map fun b => .bool (!b) := id rfl
@[simp] theorem f_sll (d lo hi) : fSlAny (.list d) lo hi = some (.list (cutD d lo hi)) := id rfl
@[simp] theorem f_slt (d lo hi) : fSlAny (.tuple d) lo hi = some (.tuple (cutD d lo hi)) := id rfl
@[simp] theorem f_repr (b) : fRepr (.bool b) = some (.str (if b then "True" else "False")) := id rfl
@[simp] theorem f_rep (d k) : fMulAny (.list d) (.int k) = if -(2 ^ 63) ≤ k ∧ k < 2 ^ 63 ∧ d.length * k.toNat ≤ sizeLine then some (.list (List.replicate k.toNat d).flatten) else none := id rfl
@[simp] theorem ko_i (i) : kindOf (.int i) = some "int" := id rfl
@[simp] theorem ko_b (i) : kindOf (.bool i) = some "bool" := id rfl
@[simp] theorem ko_n : kindOf .none = some "NoneType" := id rfl
@[simp] theorem ko_s (i) : kindOf (.str i) = some "str" := id rfl
@[simp] theorem ko_l (i) : kindOf (.list i) = some "list" := id rfl
@[simp] theorem ko_t (i) : kindOf (.tuple i) = some "tuple" := id rfl
@[simp] theorem kb_ii : kitB "int" "int" = some true := by decide +kernel
@[simp] theorem kb_ib : kitB "int" "bool" = some false := by decide +kernel
@[simp] theorem kb_bi : kitB "bool" "int" = some true := by decide +kernel
@[simp] theorem kb_bb : kitB "bool" "bool" = some true := by decide +kernel
@[simp] theorem kb_tt : kitB "tuple" "tuple" = some true := by decide +kernel
@[simp] theorem kb_ll : kitB "list" "list" = some true := by decide +kernel
@[simp] theorem kb_ni : kitB "NoneType" "int" = some false := by decide +kernel
/-- places -/
theorem atI_nat' {α : Type} (l : List α) (n : Nat) : atI l (n : Int) = l[n]? := by
  unfold atI ixN
  rw [if_pos (Int.natCast_nonneg n)]
  by_cases h : n < l.length
  · rw [if_pos (by omega), Option.bind_some, Int.toNat_natCast]
  · rw [if_neg (by omega), Option.bind_none, List.getElem?_eq_none (by omega)]
@[simp] theorem atI_0 {α : Type} (a : α) (l : List α) : atI (a :: l) 0 = some a := by
  have := atI_nat' (a :: l) 0
  simpa using this
@[simp] theorem atI_1 {α : Type} (a b : α) (l : List α) : atI (a :: b :: l) 1 = some b := by
  have := atI_nat' (a :: b :: l) 1
  simpa using this
@[simp] theorem atI_2 {α : Type} (a b c : α) (l : List α) : atI (a :: b :: c :: l) 2 = some c := by
  have := atI_nat' (a :: b :: c :: l) 2
  simpa using this
@[simp] theorem atI_3 {α : Type} (a b c d : α) (l : List α) : atI (a :: b :: c :: d :: l) 3 = some d := by
  have := atI_nat' (a :: b :: c :: d :: l) 3
  simpa using this
theorem atI_int {α : Type} (l : List α) (k : Int) (h : 0 ≤ k) : atI l k = l[k.toNat]? := by
  have := atI_nat' l k.toNat
  rwa [Int.toNat_of_nonneg h] at this
theorem atI_last {α : Type} (l : List α) (x : α) : atI (l ++ [x]) (-1) = some x := by
  unfold atI ixN
  rw [if_neg (by decide), if_pos (by simp; omega), Option.bind_some]
  have : (-1 + ((l ++ [x]).length : Int)).toNat = l.length := by simp; omega
  rw [this]
  simp
theorem ixN_nat' (n j : Nat) (h : j < n) : ixN n (j : Int) = some j := by
  unfold ixN
  rw [if_pos (by omega), if_pos (by omega)]
  simp
theorem lt_line {n : Nat} (h : n ≤ 1000000) : n < sizeLine := Nat.lt_of_le_of_lt h (by decide)
theorem le_line {n : Nat} (h : n ≤ 1000000) : n ≤ sizeLine := Nat.le_of_lt (lt_line h)
@[simp] theorem sz0 : (0 ≤ sizeLine) = True := eq_true (Nat.zero_le _)
@[simp] theorem sz1 : (0 + 1 ≤ sizeLine) = True := eq_true (by decide)
@[simp] theorem sz2 : (0 + 1 + 1 ≤ sizeLine) = True := eq_true (by decide)
@[simp] theorem sz3 : (0 + 1 + 1 + 1 ≤ sizeLine) = True := eq_true (by decide)
@[simp] theorem sz4 : (0 + 1 + 1 + 1 + 1 ≤ sizeLine) = True := eq_true (by decide)
@[simp] theorem sz1' : (1 ≤ sizeLine) = True := eq_true (by decide)
@[simp] theorem sz2' : (2 ≤ sizeLine) = True := eq_true (by decide)
@[simp] theorem sz3' : (3 ≤ sizeLine) = True := eq_true (by decide)
@[simp] theorem sz4' : (4 ≤ sizeLine) = True := eq_true (by decide)
theorem mask_nil : ∀ (k j : Nat) (ρ : DEnv), maskO [] j k ρ = List.replicate k .un
  | 0, _, _ => rfl
  | k + 1, j, [] => by rw [maskO, mask_nil k (j + 1) [], List.replicate_succ]
  | k + 1, j, s :: ρ => by rw [maskO, mask_nil k (j + 1) ρ, List.replicate_succ]; rfl
/-- what a def without owned arguments hands back -/
theorem fn_ret {n : Nat} {b : DS} {args : List Sl} {r : Sl} {ρ' : DEnv} (h : b (args ++ List.replicate (n - args.length) .un) = some (.rt r, ρ')) : dFn n [] b args = some (r, List.replicate args.length .un) := by
  unfold dFn
  rw [h, Option.bind_some]
  simp only [mask_nil]
theorem fn_nx {n : Nat} {b : DS} {args : List Sl} {ρ' : DEnv} (h : b (args ++ List.replicate (n - args.length) .un) = some (.nx, ρ')) : dFn n [] b args = some (.im .none, List.replicate args.length .un) := by
  unfold dFn
  rw [h, Option.bind_some]
  simp only [mask_nil]
/-- comprehensions whose turns change nothing -/
theorem turns_pure {g : DG} {t : DT} {e : DI} {vs : List Nat} {ρ : DEnv} (p : PyData → Bool) (f : PyData → PyData) : ∀ (ds acc : List PyData), acc.length + ds.length ≤ 1000000 →
    (∀ d ∈ ds, ∃ ρ1 ρ2, g d ρ = some ρ1 ∧ t ρ1 = some (p d, ρ2) ∧ (p d = false → wipeD ρ2 vs = ρ) ∧ (p d = true → ∃ ρ3, e ρ2 = some (f d, ρ3) ∧ wipeD ρ3 vs = ρ)) →
    dTurns g t e vs ds ρ acc = some (acc ++ (ds.filter p).map f, ρ)
  | [], acc, _, _ => by simp [dTurns]
  | d :: ds, acc, hl, h => by
    obtain ⟨ρ1, ρ2, h1, h2, h3, h4⟩ := h d (.head _)
    simp only [dTurns, h1, h2, Option.bind_some]
    have hl' : acc.length + ds.length + 1 ≤ 1000000 := by simpa [Nat.add_assoc] using hl
    cases hp : p d with
    | false =>
      simp only [Bool.false_eq_true, if_false]
      rw [h3 hp, turns_pure p f ds acc (by omega) fun d hd => h d (.tail _ hd), List.filter_cons]
      simp [hp]
    | true =>
      obtain ⟨ρ3, h5, h6⟩ := h4 hp
      simp only [if_true, h5, Option.bind_some]
      rw [if_pos (lt_line (by omega)), h6, turns_pure p f ds (acc ++ [f d]) (by simp; omega) fun d hd => h d (.tail _ hd), List.filter_cons]
      simp [hp]
/-- loops by a word -/
theorem loop_inv {g : DG} {b : DS} {ds : List PyData} {ρ : DEnv} (I : Nat → DEnv → Prop) (h0 : I 0 ρ)
    (hs : ∀ i d ρ, ds[i]? = some d → I i ρ → ∃ ρ1 ρ2, g d ρ = some ρ1 ∧ (b ρ1 = some (.nx, ρ2) ∨ b ρ1 = some (.ct, ρ2)) ∧ I (i + 1) ρ2) : ∃ ρ', dLoop g b ds ρ = some (.nx, ρ') ∧ I ds.length ρ' := by
  have key : ∀ (k i : Nat) (ρ : DEnv), i + k = ds.length → I i ρ → ∃ ρ', dLoop g b (ds.drop i) ρ = some (.nx, ρ') ∧ I ds.length ρ' := by
    intro k
    induction k with
    | zero =>
      intro i ρ hi hI
      have : i = ds.length := by omega
      subst this
      exact ⟨ρ, by rw [List.drop_length]; rfl, hI⟩
    | succ k ih =>
      intro i ρ hi hI
      have hlt : i < ds.length := by omega
      obtain ⟨ρ1, ρ2, h1, h2, h3⟩ := hs i ds[i] ρ (List.getElem?_eq_getElem hlt) hI
      obtain ⟨ρ', h4, h5⟩ := ih (i + 1) ρ2 (by omega) h3
      refine ⟨ρ', ?_, h5⟩
      rw [List.drop_eq_getElem_cons hlt]
      rcases h2 with h2 | h2 <;> simp only [dLoop, h1, h2, Option.bind_some, h4]
  simpa using key ds.length 0 ρ (by simp) h0
/-- loops that may hand back a value -/
theorem loop_ret {g : DG} {b : DS} {ds : List PyData} {ρ : DEnv} (I : Nat → DEnv → Prop) (R : Sl → DEnv → Prop) (h0 : I 0 ρ)
    (hs : ∀ i d ρ, ds[i]? = some d → I i ρ → ∃ ρ1 ρ2, g d ρ = some ρ1 ∧ (((b ρ1 = some (.nx, ρ2) ∨ b ρ1 = some (.ct, ρ2)) ∧ I (i + 1) ρ2) ∨ ∃ r, b ρ1 = some (.rt r, ρ2) ∧ R r ρ2)) :
    (∃ ρ', dLoop g b ds ρ = some (.nx, ρ') ∧ I ds.length ρ') ∨ ∃ r ρ', dLoop g b ds ρ = some (.rt r, ρ') ∧ R r ρ' := by
  have key : ∀ (k i : Nat) (ρ : DEnv), i + k = ds.length → I i ρ → (∃ ρ', dLoop g b (ds.drop i) ρ = some (.nx, ρ') ∧ I ds.length ρ') ∨ ∃ r ρ', dLoop g b (ds.drop i) ρ = some (.rt r, ρ') ∧ R r ρ' := by
    intro k
    induction k with
    | zero =>
      intro i ρ hi hI
      have : i = ds.length := by omega
      subst this
      exact .inl ⟨ρ, by rw [List.drop_length]; rfl, hI⟩
    | succ k ih =>
      intro i ρ hi hI
      have hlt : i < ds.length := by omega
      obtain ⟨ρ1, ρ2, h1, h2⟩ := hs i ds[i] ρ (List.getElem?_eq_getElem hlt) hI
      rw [List.drop_eq_getElem_cons hlt]
      rcases h2 with ⟨h2, h3⟩ | ⟨r, h2, h3⟩
      · have := ih (i + 1) ρ2 (by omega) h3
        rcases h2 with h2 | h2 <;> simpa only [dLoop, h1, h2, Option.bind_some] using this
      · exact .inr ⟨r, ρ2, by simp only [dLoop, h1, h2, Option.bind_some], h3⟩
  simpa using key ds.length 0 ρ (by simp) h0
end DL

set_option Elab.async false
set_option linter.all false
set_option maxRecDepth 100000
set_option maxHeartbeats 1000000
/-! EW: evaluating with typed things -/
namespace DL
open PySem L2
theorem e_dFn {n : Nat} {own : List Nat} {b : DS} {args : List Sl} : dFn n own b args = (b (args ++ List.replicate (n - args.length) .un)).bnd fun r => fnO own args.length r.2 r.1 := by
  unfold dFn fnO
  rcases b (args ++ List.replicate (n - args.length) .un) with _ | ⟨_ | _ | _ | _ | _, _⟩ <;> rfl
def fnN (k : Nat) : Fl → Option (Sl × List Sl)
  | .nx => some (.im .none, List.replicate k .un)
  | .rt s => some (s, List.replicate k .un)
  | _ => none
@[simp] theorem fnN_nx (k) : fnN k .nx = some (.im .none, List.replicate k .un) := id rfl
@[simp] theorem fnN_rt (k s) : fnN k (.rt s) = some (s, List.replicate k .un) := id rfl
@[simp] theorem fnO_nx (own k ρ) : fnO own k ρ .nx = some (.im .none, maskO own 0 k ρ) := id rfl
@[simp] theorem fnO_rt (own k ρ s) : fnO own k ρ (.rt s) = some (s, maskO own 0 k ρ) := id rfl
theorem dFn_nil {n : Nat} {b : DS} {args : List Sl} : dFn n [] b args = (b (args ++ List.replicate (n - args.length) .un)).bnd fun r => fnN args.length r.1 := by
  rw [e_dFn]
  congr 1
  funext r
  rcases r with ⟨_ | _ | _ | _ | _, ρ⟩ <;> simp [fnO, fnN, mask_nil]
/-- a loop, by the rest of its list -/
theorem loop_R {α : Type} {g : DG} {b : DS} {enc : α → PyData} (I : List α → DEnv → Prop) (R : Sl → DEnv → Prop)
    (hs : ∀ x rest ρ, I (x :: rest) ρ → ∃ ρ1, g (enc x) ρ = some ρ1 ∧ ((∃ ρ2, (b ρ1 = some (.nx, ρ2) ∨ b ρ1 = some (.ct, ρ2)) ∧ I rest ρ2) ∨ ∃ r ρ2, b ρ1 = some (.rt r, ρ2) ∧ R r ρ2)) :
    ∀ (xs : List α) (ρ : DEnv), I xs ρ → (∃ ρ', dLoop g b (xs.map enc) ρ = some (.nx, ρ') ∧ I [] ρ') ∨ ∃ r ρ', dLoop g b (xs.map enc) ρ = some (.rt r, ρ') ∧ R r ρ'
  | [], ρ, h => .inl ⟨ρ, rfl, h⟩
  | x :: xs, ρ, h => by
    obtain ⟨ρ1, h1, h2⟩ := hs x xs ρ h
    rcases h2 with ⟨ρ2, h2, h3⟩ | ⟨r, ρ2, h2, h3⟩
    · have := loop_R I R hs xs ρ2 h3
      rw [List.map_cons]
      rcases h2 with h2 | h2 <;> simpa only [dLoop, h1, h2, Option.bind_some] using this
    · exact .inr ⟨r, ρ2, by simp only [List.map_cons, dLoop, h1, h2, Option.bind_some], h3⟩
/-- a loop that comes to its end -/
theorem loop_I {α : Type} {g : DG} {b : DS} {enc : α → PyData} (I : List α → DEnv → Prop)
    (hs : ∀ x rest ρ, I (x :: rest) ρ → ∃ ρ1 ρ2, g (enc x) ρ = some ρ1 ∧ (b ρ1 = some (.nx, ρ2) ∨ b ρ1 = some (.ct, ρ2)) ∧ I rest ρ2) (xs : List α) (ρ : DEnv) (h : I xs ρ) :
    ∃ ρ', dLoop g b (xs.map enc) ρ = some (.nx, ρ') ∧ I [] ρ' := by
  rcases loop_R I (fun _ _ => False) (fun x rest ρ h => by
    obtain ⟨ρ1, ρ2, h1, h2, h3⟩ := hs x rest ρ h
    exact ⟨ρ1, h1, .inl ⟨ρ2, h2, h3⟩⟩) xs ρ h with h | ⟨_, _, _, h⟩
  · exact h
  · exact h.elim
/-- comprehensions over typed things -/
theorem lc_typed {α : Type} {g : DG} {t : DT} {e : DI} {vs : List Nat} {ρ : DEnv} {enc : α → PyData} (p : α → Bool) (f : α → PyData) : ∀ (xs : List α) (acc : List PyData), acc.length + xs.length ≤ 1000000 →
    (∀ x ∈ xs, ∃ ρ1, g (enc x) ρ = some ρ1 ∧ t ρ1 = some (p x, ρ1) ∧ (p x = true → e ρ1 = some (f x, ρ1)) ∧ wipeD ρ1 vs = ρ) →
    dTurns g t e vs (xs.map enc) ρ acc = some (acc ++ (xs.filter p).map f, ρ)
  | [], acc, _, _ => by simp [dTurns]
  | d :: ds, acc, hl, h => by
    obtain ⟨ρ1, h1, h2, h4, h5⟩ := h d (.head _)
    simp only [List.map_cons, dTurns, h1, h2, Option.bind_some]
    have hl' : acc.length + ds.length + 1 ≤ 1000000 := by simpa [Nat.add_assoc] using hl
    cases hp : p d with
    | false =>
      simp only [Bool.false_eq_true, if_false]
      rw [h5, lc_typed p f ds acc (by omega) fun d hd => h d (.tail _ hd), List.filter_cons]
      simp [hp]
    | true =>
      simp only [if_true, h4 hp, Option.bind_some]
      rw [if_pos (lt_line (by omega)), h5, lc_typed p f ds (acc ++ [f d]) (by simp; omega) fun d hd => h d (.tail _ hd), List.filter_cons]
      simp [hp]
theorem lc_all {α : Type} {g : DG} {e : DI} {vs : List Nat} {ρ : DEnv} {enc : α → PyData} (f : α → PyData) (xs : List α) (acc : List PyData) (hl : acc.length + xs.length ≤ 1000000)
    (h : ∀ x ∈ xs, ∃ ρ1, g (enc x) ρ = some ρ1 ∧ e ρ1 = some (f x, ρ1) ∧ wipeD ρ1 vs = ρ) : dTurns g dYes e vs (xs.map enc) ρ acc = some (acc ++ xs.map f, ρ) := by
  have := lc_typed (g := g) (t := dYes) (e := e) (vs := vs) (ρ := ρ) (enc := enc) (fun _ => true) f xs acc hl fun x hx => by
    obtain ⟨ρ1, h1, h2, h3⟩ := h x hx
    exact ⟨ρ1, h1, rfl, fun _ => h2, h3⟩
  rwa [List.filter_eq_self.mpr fun _ _ => rfl] at this
@[simp] theorem wipe_nil (ρ) : wipeD ρ [] = ρ := id rfl
@[simp] theorem wipe_cons (ρ v vs) : wipeD ρ (v :: vs) = (wipeD ρ vs).set v .un := id rfl
/-- things that can be compared -/
def Shp (k : Nat) (d : PyData) : Prop := d.canLay0 = true ∧ d.depth ≤ k
theorem Shp.up {k m d} (h : Shp k d) (hk : k ≤ m) : Shp m d := ⟨h.1, Nat.le_trans h.2 hk⟩
theorem canAll : ∀ {ds : List PyData}, (∀ d ∈ ds, d.canLay0 = true) → PyData.canLayAll0 ds = true
  | [], _ => rfl
  | d :: ds, h => by
    rw [PyData.canLayAll0, h d (.head _), canAll fun d hd => h d (.tail _ hd)]
    rfl
theorem depthAll {k : Nat} : ∀ {ds : List PyData}, (∀ d ∈ ds, d.depth ≤ k) → PyData.depthAll ds ≤ k
  | [], _ => Nat.zero_le _
  | d :: ds, h => by
    have h1 := h d (.head _)
    have h2 := depthAll fun d hd => h d (.tail _ hd)
    rw [PyData.depthAll]
    omega
theorem shp_list {k : Nat} {ds : List PyData} (h : ∀ d ∈ ds, Shp k d) : Shp (k + 1) (.list ds) := by
  refine ⟨?_, ?_⟩
  · rw [PyData.canLay0]
    exact canAll fun d hd => (h d hd).1
  · have := depthAll fun d hd => (h d hd).2
    rw [PyData.depth]
    omega
theorem shp_tup {k : Nat} {ds : List PyData} (h : ∀ d ∈ ds, Shp k d) : Shp (k + 1) (.tuple ds) := by
  refine ⟨?_, ?_⟩
  · rw [PyData.canLay0]
    exact canAll fun d hd => (h d hd).1
  · have := depthAll fun d hd => (h d hd).2
    rw [PyData.depth]
    omega
theorem shp_int (i : Int) : Shp 1 (.int i) := ⟨by simp [PyData.canLay0], by simp [PyData.depth]⟩
theorem shp_none : Shp 1 .none := ⟨by simp [PyData.canLay0], by simp [PyData.depth]⟩
theorem shp_bool (b : Bool) : Shp 1 (.bool b) := ⟨by simp [PyData.canLay0], by simp [PyData.depth]⟩
theorem Shp.sh {k d} (h : Shp k d) (hk : k ≤ 64) : SeqAt.shaped d = true := by
  unfold SeqAt.shaped
  rw [h.1, decide_eq_true (Nat.le_trans h.2 hk)]
  rfl
theorem eqD_self {d : PyData} (h : Shp 64 d) : eqD d d = some true := by
  have e := SeqAt.eqv_refl d h.1
  have hs := h.sh (Nat.le_refl _)
  cases d with
  | none => rfl
  | bool b => simp
  | int i => simp
  | str x => simp
  | list ds => exact (show _ = _ from if_pos (c := SeqAt.shaped (.list ds) = true ∧ SeqAt.shaped (.list ds) = true) ⟨hs, hs⟩).trans (congrArg some e)
  | tuple ds => exact (show _ = _ from if_pos (c := SeqAt.shaped (.tuple ds) = true ∧ SeqAt.shaped (.tuple ds) = true) ⟨hs, hs⟩).trans (congrArg some e)
  | dict ds => exact (show _ = _ from if_pos (c := SeqAt.shaped (.dict ds) = true ∧ SeqAt.shaped (.dict ds) = true) ⟨hs, hs⟩).trans (congrArg some e)
theorem eqD_nil {ds : List PyData} (h : Shp 64 (.list ds)) : eqD (.list ds) (.list []) = some ds.isEmpty := by
  have h2 : Shp 64 (.list []) := (shp_list (k := 0) (by simp)).up (by omega)
  show (if SeqAt.shaped (.list ds) = true ∧ SeqAt.shaped (.list []) = true then some (PyData.eqv (.list ds) (.list [])) else none) = _
  rw [if_pos ⟨h.sh (Nat.le_refl _), h2.sh (Nat.le_refl _)⟩]
  cases ds <;> simp [PyData.eqv, PyData.eqvAll]
@[simp] theorem eqD_nn : eqD (.list []) (.list []) = some true := eqD_nil (ds := []) ((shp_list (k := 0) (fun d h => by cases h)).up (by omega))
theorem inD_two (i a b : Int) : inD (.int i) (.tuple [.int a, .int b]) = some (decide (i ∈ [a, b])) := by
  have := inV_int i [a, b]
  simp only [List.map_cons, List.map_nil] at this
  simp [inD, toV, seqOf, toVs, this]
theorem rng_eq (n : Nat) : rng 0 n = (List.range n).map fun (k : Nat) => PyData.int (k : Int) := by
  unfold rng
  simp
theorem rng_from (a : Int) (n : Nat) : rng a n = (List.range n).map fun (k : Nat) => PyData.int (a + k) := rfl
theorem atI_succ' {α : Type} (l : List α) (n : Nat) : atI l ((n : Int) + 1) = l[n + 1]? := atI_nat' l (n + 1)
theorem map_int_get (ns : List Int) (k : Nat) : (ns.map PyData.int)[k]? = ns[k]?.map .int := List.getElem?_map ..
/-- what a turn of a loop comes to -/
inductive Goes (P : DEnv → Prop) (Q : Sl → Prop) : Option (Fl × DEnv) → Prop
  | nx {ρ : DEnv} : P ρ → Goes P Q (some (.nx, ρ))
  | ct {ρ : DEnv} : P ρ → Goes P Q (some (.ct, ρ))
  | rt {r : Sl} {ρ : DEnv} : Q r → Goes P Q (some (.rt r, ρ))
@[simp] theorem goes_nx {P Q ρ} : Goes P Q (some (.nx, ρ)) ↔ P ρ := ⟨fun h => by cases h; assumption, .nx⟩
@[simp] theorem goes_ct {P Q ρ} : Goes P Q (some (.ct, ρ)) ↔ P ρ := ⟨fun h => by cases h; assumption, .ct⟩
@[simp] theorem goes_rt {P Q r ρ} : Goes P Q (some (.rt r, ρ)) ↔ Q r := ⟨fun h => by cases h; assumption, .rt⟩
theorem goes_ok {P Q} {o : Option (Fl × DEnv)} (h : Goes P Q o) : (∃ ρ, (o = some (.nx, ρ) ∨ o = some (.ct, ρ)) ∧ P ρ) ∨ ∃ r ρ, o = some (.rt r, ρ) ∧ Q r := by
  cases h with
  | nx h => exact .inl ⟨_, .inl rfl, h⟩
  | ct h => exact .inl ⟨_, .inr rfl, h⟩
  | rt h => exact .inr ⟨_, _, rfl, h⟩
theorem goes_no {P Q} (h : Goes P Q none) : False := by cases h
/-- a loop by its turns -/
theorem at_loopQ {g : DG} {b : DS} {ds : List PyData} {ρ : DEnv} {L : Option (Fl × DEnv)} (e : dLoop g b ds ρ = L) (I : Nat → DEnv → Prop) (Q : Sl → Prop) (h0 : I 0 ρ)
    (hs : ∀ i d ρ, ds[i]? = some d → I i ρ → Goes (I (i + 1)) Q ((g d ρ).bnd b)) : (∃ ρ', L = some (.nx, ρ') ∧ I ds.length ρ') ∨ ∃ r ρ', L = some (.rt r, ρ') ∧ Q r := by
  subst e
  refine loop_ret I (fun r _ => Q r) h0 fun i d ρ hd hI => ?_
  have := hs i d ρ hd hI
  cases hg : g d ρ with
  | none => rw [hg] at this; exact (goes_no this).elim
  | some ρ1 =>
    rw [hg, bnd_some] at this
    rcases goes_ok this with ⟨ρ2, h1, h2⟩ | ⟨r, ρ2, h1, h2⟩
    · exact ⟨ρ1, ρ2, rfl, .inl ⟨h1, h2⟩⟩
    · exact ⟨ρ1, ρ2, rfl, .inr ⟨r, h1, h2⟩⟩
theorem at_loop {g : DG} {b : DS} {ds : List PyData} {ρ : DEnv} {L : Option (Fl × DEnv)} (e : dLoop g b ds ρ = L) (I : Nat → DEnv → Prop) (h0 : I 0 ρ)
    (hs : ∀ i d ρ, ds[i]? = some d → I i ρ → Goes (I (i + 1)) (fun _ => False) ((g d ρ).bnd b)) : ∃ ρ', L = some (.nx, ρ') ∧ I ds.length ρ' := by
  rcases at_loopQ e I _ h0 hs with h | ⟨_, _, _, h⟩
  · exact h
  · exact h.elim
theorem at_restQ {α : Type} {g : DG} {b : DS} {enc : α → PyData} {xs : List α} {ρ : DEnv} {L : Option (Fl × DEnv)} (e : dLoop g b (xs.map enc) ρ = L) (I : List α → DEnv → Prop) (Q : Sl → Prop) (h0 : I xs ρ)
    (hs : ∀ x rest ρ, I (x :: rest) ρ → Goes (I rest) Q ((g (enc x) ρ).bnd b)) : (∃ ρ', L = some (.nx, ρ') ∧ I [] ρ') ∨ ∃ r ρ', L = some (.rt r, ρ') ∧ Q r := by
  subst e
  refine loop_R I (fun r _ => Q r) (fun x rest ρ hI => ?_) xs ρ h0
  have := hs x rest ρ hI
  cases hg : g (enc x) ρ with
  | none => rw [hg] at this; exact (goes_no this).elim
  | some ρ1 =>
    rw [hg, bnd_some] at this
    refine ⟨ρ1, rfl, ?_⟩
    rcases goes_ok this with ⟨ρ2, h1, h2⟩ | ⟨r, ρ2, h1, h2⟩
    · exact .inl ⟨ρ2, h1, h2⟩
    · exact .inr ⟨r, ρ2, h1, h2⟩
theorem at_rest {α : Type} {g : DG} {b : DS} {enc : α → PyData} {xs : List α} {ρ : DEnv} {L : Option (Fl × DEnv)} (e : dLoop g b (xs.map enc) ρ = L) (I : List α → DEnv → Prop) (h0 : I xs ρ)
    (hs : ∀ x rest ρ, I (x :: rest) ρ → Goes (I rest) (fun _ => False) ((g (enc x) ρ).bnd b)) : ∃ ρ', L = some (.nx, ρ') ∧ I [] ρ' := by
  rcases at_restQ e I _ h0 hs with h | ⟨_, _, _, h⟩
  · exact h
  · exact h.elim
/-- while -/
def whB (t : DT) (b : DS) (n : Nat) : Option (Fl × DEnv) → Option (Fl × DEnv)
  | some (.nx, ρ) => dWhileN t b n ρ
  | some (.ct, ρ) => dWhileN t b n ρ
  | some (.bk, ρ) => some (.nx, ρ)
  | some (.rt v, ρ) => some (.rt v, ρ)
  | some (.xc c d, ρ) => some (.xc c d, ρ)
  | none => none
@[simp] theorem whB_xc (t b n c d ρ) : whB t b n (some (.xc c d, ρ)) = some (.xc c d, ρ) := id rfl
@[simp] theorem whB_nx (t b n ρ) : whB t b n (some (.nx, ρ)) = dWhileN t b n ρ := id rfl
@[simp] theorem whB_ct (t b n ρ) : whB t b n (some (.ct, ρ)) = dWhileN t b n ρ := id rfl
@[simp] theorem whB_bk (t b n ρ) : whB t b n (some (.bk, ρ)) = some (.nx, ρ) := id rfl
@[simp] theorem whB_rt (t b n v ρ) : whB t b n (some (.rt v, ρ)) = some (.rt v, ρ) := id rfl
def whT (t : DT) (b : DS) (n : Nat) : Option (Bool × DEnv) → Option (Fl × DEnv)
  | some (x, ρ) => if x = true then whB t b n (b ρ) else some (.nx, ρ)
  | none => none
@[simp] theorem whT_some (t b n x ρ) : whT t b n (some (x, ρ)) = if x = true then whB t b n (b ρ) else some (.nx, ρ) := id rfl
theorem while_step {t : DT} {b : DS} {n : Nat} {ρ : DEnv} : dWhileN t b (n + 1) ρ = whT t b n (t ρ) := by
  rw [dWhileN]
  unfold whT
  rcases t ρ with _ | ⟨x, ρ⟩
  · rfl
  · rw [Option.bind_some]
    dsimp only
    cases x
    · rfl
    · rw [if_pos rfl, if_pos rfl]
      unfold whB
      rcases b ρ with _ | ⟨_ | _ | _ | _ | _, _⟩ <;> rfl
theorem fuel_big {n : Nat} (h : n ≤ 1000000) : n < fuel0 := Nat.lt_of_le_of_lt h (by unfold fuel0; decide)
end DL

set_option Elab.async false
set_option linter.all false
set_option maxRecDepth 100000
set_option maxHeartbeats 1000000
/-! EX: evaluating errors, dicts by tuples, repr -/
namespace DL
open PySem L2
def tryG (s : DS) (ρ : DEnv) : Option (Xn × DEnv) → Option (Fl × DEnv)
  | some (e, ρ') => some (.xc e.1 e.2, ρ')
  | none => s ρ
@[simp] theorem tryG_some (s ρ e ρ') : tryG s ρ (some (e, ρ')) = some (.xc e.1 e.2, ρ') := id rfl
@[simp] theorem tryG_none (s ρ) : tryG s ρ none = s ρ := id rfl
@[simp] theorem e_dTryX (x s ρ) : dTryX x s ρ = tryG s ρ (x ρ) := by
  unfold dTryX tryG
  rcases x ρ with _ | ⟨_, _⟩ <;> rfl
@[simp] theorem e_xCall (mx dds a ρ) : xCall mx dds a ρ = (a ρ).bnd fun r => (takeArgs r.1 r.2).bnd fun t => (mx (t.1 ++ dds.map .im)).map fun s => (s.1, putArgs r.1 s.2 t.2) := id rfl
@[simp] theorem e_dRaise (c e ρ) : dRaise c e ρ = (e ρ).map fun r => (.xc c r.1, r.2) := id rfl
def asF (cs : List Nat) (ex : Nat → Bool) (i : Nat) (su : Nat → PyData → DS) : Option (Fl × DEnv) → Option (Fl × DEnv)
  | some (.xc c d, ρ) => if cs.contains c = true ∧ i < ρ.length then (if ex c = true then (su c d (ρ.set i .un)).bnd fun s => if noXc s.1 = true then some (s.1, s.2.set i .un) else none else some (.xc c d, ρ)) else none
  | some (fl, ρ) => some (fl, ρ)
  | none => none
@[simp] theorem asF_nx (cs ex i su ρ) : asF cs ex i su (some (.nx, ρ)) = some (.nx, ρ) := id rfl
@[simp] theorem asF_rt (cs ex i su s ρ) : asF cs ex i su (some (.rt s, ρ)) = some (.rt s, ρ) := id rfl
@[simp] theorem asF_xc (cs ex i su c d ρ) : asF cs ex i su (some (.xc c d, ρ)) = if cs.contains c = true ∧ i < ρ.length then (if ex c = true then (su c d (ρ.set i .un)).bnd fun s => if noXc s.1 = true then some (s.1, s.2.set i .un) else none else some (.xc c d, ρ)) else none := id rfl
@[simp] theorem e_dTryAs (cs ex i b su ρ) : dTryAs cs ex i b su ρ = asF cs ex i su (b ρ) := by
  unfold dTryAs asF
  rcases b ρ with _ | ⟨_ | _ | _ | _ | _, _⟩ <;> rfl
@[simp] theorem e_dSuF (c0 su c d ρ) : dSuF c0 su c d ρ = if c = c0 then (if (toV d).isSome = true then su d ρ else none) else none := id rfl
@[simp] theorem no_rt (s) : noXc (.rt s) = true := id rfl
@[simp] theorem no_nx : noXc .nx = true := id rfl
def xcOf (own : List Nat) (k : Nat) (ρ : DEnv) : Fl → Option (Xn × List Sl)
  | .xc c d => some ((c, d), maskO own 0 k ρ)
  | _ => none
@[simp] theorem xcOf_xc (own k ρ c d) : xcOf own k ρ (.xc c d) = some ((c, d), maskO own 0 k ρ) := id rfl
@[simp] theorem xcOf_nx (own k ρ) : xcOf own k ρ .nx = none := id rfl
@[simp] theorem xcOf_rt (own k ρ s) : xcOf own k ρ (.rt s) = none := id rfl
theorem e_dFnX {n : Nat} {own : List Nat} {b : DS} {args : List Sl} : dFnX n own b args = (b (args ++ List.replicate (n - args.length) .un)).bnd fun r => xcOf own args.length r.2 r.1 := by
  unfold dFnX xcOf
  rcases b (args ++ List.replicate (n - args.length) .un) with _ | ⟨_ | _ | _ | _ | _, _⟩ <;> rfl
@[simp] theorem fnN_xc (k c d) : fnN k (.xc c d) = none := id rfl
@[simp] theorem e_dSortDT (i ρ) : dSortDT i ρ = (ownT ρ[i]?).bnd fun kvs => (tupKeys kvs).map fun ks => (.list ((tsort ks).map unTup), ρ) := id rfl
@[simp] theorem e_dDictPT (a ρ) : dDictPT a ρ = (a ρ).bnd fun r => ((asLst r.1).bnd pairsT).map fun es => (.nw (.dct (mergeD [] es)), r.2) := id rfl
@[simp] theorem f_tupl (d) : fTupleOf (.list d) = some (.tuple d) := id rfl
@[simp] theorem f_tupt (d) : fTupleOf (.tuple d) = some (.tuple d) := id rfl
@[simp] theorem f_rxb (b) : fReprX (.bool b) = some (.str (if b then "True" else "False")) := f_reprX_bool b
theorem inRng_z {j : Int} (h : inRng j = true) : -(2 ^ 62) ≤ j ∧ j < 2 ^ 62 := inRng_iff.mp h
theorem e_dRng3 {a b c : DI} {ρ ρ1 ρ2 ρ3 : DEnv} {i j : Int} (h1 : a ρ = some (.int i, ρ1)) (h2 : b ρ1 = some (.int j, ρ2)) (h3 : c ρ2 = some (.int (-1), ρ3)) (hi : inRng i = true) (hj : inRng j = true) : dRng3 a b c ρ = some (rngD i (i - j).toNat, ρ3) := by
  obtain ⟨i1, i2⟩ := inRng_z hi
  obtain ⟨j1, j2⟩ := inRng_z hj
  unfold dRng3
  rw [h1, Option.bind_some, h2, Option.bind_some, h3, Option.bind_some]
  show (if (-1 : Int) = -1 ∧ (-(2 ^ 62) ≤ i ∧ i < 2 ^ 62 ∧ -(2 ^ 62) ≤ j ∧ j < 2 ^ 62) then some (rngD i (i - j).toNat, ρ3) else none) = _
  exact if_pos ⟨rfl, i1, i2, j1, j2⟩
theorem e_dRepN {x : PyData} {b : DI} {ρ ρ1 : DEnv} {n : Nat} (h1 : b ρ = some (.int (n : Int), ρ1)) (h : n ≤ 1000000) : dRepN (dIm (dLst (dCons (dC x) dNil))) b ρ = some (.nw (.lst (List.replicate n x)), ρ1) := by
  unfold dRepN
  have e0 : dIm (dLst (dCons (dC x) dNil)) ρ = some (.list [x], ρ) := by simp
  rw [e0, Option.bind_some]
  dsimp only
  rw [h1, Option.bind_some]
  simp only [al_l, ti_i, Option.bind_some]
  rw [if_pos (inRep_nat (by simpa using h) h)]
  simp
/-! turns of a loop, one by one -/
section
variable {g : DG} {b : DS} {d : PyData} {ds : List PyData} {ρ ρ1 ρ2 : DEnv}
theorem turn_nx (h1 : g d ρ = some ρ1) (h2 : b ρ1 = some (.nx, ρ2)) : dLoop g b (d :: ds) ρ = dLoop g b ds ρ2 := by simp only [dLoop, h1, h2, Option.bind_some]
theorem turn_bk (h1 : g d ρ = some ρ1) (h2 : b ρ1 = some (.bk, ρ2)) : dLoop g b (d :: ds) ρ = some (.nx, ρ2) := by simp only [dLoop, h1, h2, Option.bind_some]
theorem turn_rt {s : Sl} (h1 : g d ρ = some ρ1) (h2 : b ρ1 = some (.rt s, ρ2)) : dLoop g b (d :: ds) ρ = some (.rt s, ρ2) := by simp only [dLoop, h1, h2, Option.bind_some]
theorem turn_xc {c : Nat} {x : PyData} (h1 : g d ρ = some ρ1) (h2 : b ρ1 = some (.xc c x, ρ2)) : dLoop g b (d :: ds) ρ = some (.xc c x, ρ2) := by simp only [dLoop, h1, h2, Option.bind_some]
end
/-! texts, rows -/
theorem shp_str {x : Str} (h : (PyData.str x).canLay0 = true) : Shp 1 (.str x) := ⟨h, by simp [PyData.depth]⟩
theorem eqvAll_ints : ∀ a b : List Int, PyData.eqvAll (a.map .int) (b.map .int) = decide (a = b)
  | [], [] => by simp [PyData.eqvAll]
  | [], y :: b => by simp [PyData.eqvAll]
  | x :: a, [] => by simp [PyData.eqvAll]
  | x :: a, y :: b => by
    have := eqvAll_ints a b
    simp only [List.map_cons, PyData.eqvAll, this, PyData.eqv, List.cons.injEq]
    by_cases h : x = y <;> simp [h]
theorem shp_row (a : List Int) : Shp 2 (unTup a) := shp_tup fun d hd => by
  obtain ⟨i, _, rfl⟩ := List.mem_map.mp hd
  exact shp_int i
theorem eqD_row (a b : List Int) : eqD (unTup a) (unTup b) = some (decide (a = b)) := by
  have h1 := ((shp_row a).up (show 2 ≤ 64 by omega)).sh (Nat.le_refl _)
  have h2 := ((shp_row b).up (show 2 ≤ 64 by omega)).sh (Nat.le_refl _)
  show (if SeqAt.shaped (unTup a) = true ∧ SeqAt.shaped (unTup b) = true then some (PyData.eqv (unTup a) (unTup b)) else none) = _
  rw [if_pos ⟨h1, h2⟩]
  show some (PyData.eqvAll (a.map .int) (b.map .int)) = _
  rw [eqvAll_ints]
theorem eqD_norow (b : List Int) : eqD .none (unTup b) = some false := by
  have h1 := (shp_none.up (show 1 ≤ 64 by omega)).sh (Nat.le_refl _)
  have h2 := ((shp_row b).up (show 2 ≤ 64 by omega)).sh (Nat.le_refl _)
  show (if SeqAt.shaped .none = true ∧ SeqAt.shaped (unTup b) = true then some (PyData.eqv .none (unTup b)) else none) = _
  rw [if_pos ⟨h1, h2⟩]
  simp [unTup, PyData.eqv]
theorem eqD_ints (a b : List Int) : eqD (.list (a.map .int)) (.list (b.map .int)) = some (decide (a = b)) := by
  have hs : ∀ a : List Int, Shp 2 (.list (a.map .int)) := fun a => shp_list fun d hd => by
    obtain ⟨i, _, rfl⟩ := List.mem_map.mp hd
    exact shp_int i
  have h1 := ((hs a).up (show 2 ≤ 64 by omega)).sh (Nat.le_refl _)
  have h2 := ((hs b).up (show 2 ≤ 64 by omega)).sh (Nat.le_refl _)
  show (if SeqAt.shaped (.list (a.map .int)) = true ∧ SeqAt.shaped (.list (b.map .int)) = true then some (PyData.eqv (.list (a.map .int)) (.list (b.map .int))) else none) = _
  rw [if_pos ⟨h1, h2⟩]
  show some (PyData.eqvAll (a.map .int) (b.map .int)) = _
  rw [eqvAll_ints]
/-! keys -/
def keyOf (a : List Int) : List Key := a.map .inl
theorem keyDs_ints : ∀ a : List Int, keyDs (a.map .int) = some (keyOf a)
  | [] => rfl
  | i :: a => by simp [keyDs, keyDs_ints a, keyOf]
@[simp] theorem keyT_row (a : List Int) : keyT (unTup a) = some (keyOf a) := by
  show (asTup (.tuple (a.map .int))).bind keyDs = _
  simp [keyDs_ints]
theorem keyOf_inj {a b : List Int} (h : keyOf a = keyOf b) : a = b := by
  have h1 : keyInts (keyOf a) = keyInts (keyOf b) := by rw [h]
  rw [show keyOf a = a.map Sum.inl from rfl, show keyOf b = b.map Sum.inl from rfl, keyInts_map, keyInts_map] at h1
  exact Option.some.inj h1
/-- the dict whose keys are rows -/
def rowD (ks : List (List Int)) : List (List Key × PyData) := ks.map fun k => (keyOf k, .bool true)
/-- a row is put in -/
def putR (ks : List (List Int)) (k : List Int) : List (List Int) := if k ∈ ks then ks else ks ++ [k]
theorem putD_row (ks : List (List Int)) (k : List Int) : putD (rowD ks) (keyOf k) (.bool true) = rowD (putR ks k) := by
  unfold putD putR
  have ha : ((rowD ks).any fun kv => decide (kv.1 = keyOf k)) = decide (k ∈ ks) := by
    unfold rowD
    rw [List.any_map]
    induction ks with
    | nil => simp
    | cons x ks ih =>
      rw [List.any_cons, ih]
      by_cases h : x = k
      · subst h; simp
      · have : keyOf x ≠ keyOf k := fun q => h (keyOf_inj q)
        have h' : ¬ k = x := fun q => h q.symm
        simp [this, h']
  rw [ha]
  by_cases h : k ∈ ks
  · simp only [h, decide_true, if_true]
    unfold rowD
    rw [List.map_map]
    refine List.map_congr_left fun x hx => ?_
    by_cases q : keyOf x = keyOf k <;> simp [q]
  · simp only [h, decide_false, if_false]
    unfold rowD
    simp
theorem valD_row (ks : List (List Int)) (k : List Int) : (valD (rowD ks) (keyOf k)).isSome = decide (k ∈ ks) := by
  unfold valD rowD
  rw [Option.isSome_map]
  induction ks with
  | nil => simp
  | cons x ks ih =>
    rw [List.map_cons, List.find?_cons]
    by_cases h : x = k
    · subst h; simp
    · have h1 : keyOf x ≠ keyOf k := fun q => h (keyOf_inj q)
      have h' : ¬ k = x := fun q => h q.symm
      simp only [h1, decide_false, ih, List.mem_cons, h', false_or]
theorem tupKeys_row : ∀ {ks : List (List Int)}, (∀ k ∈ ks, k ≠ []) → tupKeys (rowD ks) = some ks
  | [], _ => rfl
  | k :: ks, h => by
    have h1 := tupKeys_row (ks := ks) fun q hq => h q (.tail _ hq)
    have h2 : keyInts (keyOf k) = some k := keyInts_map k
    have h3 := h k (.head _)
    show ((keyInts (keyOf k)).bind fun ns => if ns = [] then none else (tupKeys (rowD ks)).map (ns :: ·)) = _
    simp [h1, h2, h3]
theorem putR_mem {ks : List (List Int)} {k x : List Int} : x ∈ putR ks k ↔ x ∈ ks ∨ x = k := by
  unfold putR
  split
  · next h => exact ⟨.inl, fun q => q.elim id fun q => q ▸ h⟩
  · simp
theorem putR_nodup {ks : List (List Int)} {k : List Int} (h : ks.Nodup) : (putR ks k).Nodup := by
  unfold putR
  split
  · exact h
  · next q => exact List.nodup_append.mpr ⟨h, by simp, fun a ha b hb => by simp at hb; subst hb; exact fun e => q (e ▸ ha)⟩
theorem putR_len (ks : List (List Int)) (k : List Int) : (putR ks k).length ≤ ks.length + 1 := by
  unfold putR
  split <;> simp
theorem pairsT_rows (rows : List (List Int)) : pairsT (rows.map fun r => .tuple [unTup r, .bool true]) = some (rowD rows) := by
  induction rows with
  | nil => rfl
  | cons r rows ih =>
    rw [List.map_cons, pairsT, ih]
    show ((((asTup (.tuple [unTup r, .bool true])).bind two).bind fun p => (keyT p.1).map fun k => (k, p.2)).bind fun p => (some (rowD rows)).map (p :: ·)) = _
    simp [rowD]
theorem merge_rows (rows : List (List Int)) : ∀ acc : List (List Int), mergeD (rowD acc) (rowD rows) = rowD (rows.foldl putR acc) := by
  induction rows with
  | nil => exact fun _ => rfl
  | cons r rows ih =>
    intro acc
    have := ih (putR acc r)
    rw [← putD_row] at this
    exact this
theorem foldl_putR {rows : List (List Int)} : ∀ {acc : List (List Int)} {x : List Int}, x ∈ rows.foldl putR acc ↔ x ∈ acc ∨ x ∈ rows := by
  induction rows with
  | nil => simp
  | cons r rows ih =>
    intro acc x
    rw [List.foldl_cons, ih, putR_mem, List.mem_cons, or_assoc]
theorem f_maxl (a : List Int) : fMaxA (.list (a.map .int)) = if 0 < a.length then some (.int (lmax a)) else none := by simp [fMaxA, asInts_map]
theorem f_maxt (a : List Int) : fMaxA (.tuple (a.map .int)) = if 0 < a.length then some (.int (lmax a)) else none := by simp [fMaxA, asInts_map]
theorem lmax_iff {l : List Int} {f : Int} (h : l ≠ []) : f < lmax l ↔ ∃ x ∈ l, f < x := by
  cases l with
  | nil => exact (h rfl).elim
  | cons n l =>
    obtain ⟨h1, h2, h3⟩ := foldl_max l n
    constructor
    · intro q
      rcases h1 with h1 | h1
      · exact ⟨n, .head _, by rw [← h1]; exact q⟩
      · exact ⟨_, .tail _ h1, q⟩
    · rintro ⟨x, hx, q⟩
      show f < l.foldl max n
      rcases List.mem_cons.mp hx with rfl | hx
      · omega
      · have := h3 x hx
        omega
end DL

set_option linter.all false
set_option maxRecDepth 100000
set_option maxHeartbeats 1000000
namespace K05
open PySem L2 DL
/-- a group: first night, night behind, rooms -/
abbrev Gp := Int × Int × Int
def encG (g : Gp) : PyData := .tuple [.int g.1, .int g.2.1, .int g.2.2]
def eIs (l : List Int) : PyData := .list (l.map .int)
def eNs (l : List Nat) : PyData := .list (l.map fun (k : Nat) => PyData.int (k : Int))
structure OkG (g : Gp) : Prop where
  f0 : 0 ≤ g.1
  fb : g.1 < g.2.1
  b4 : g.2.1 ≤ 400
  m1 : 1 ≤ g.2.2
  m6 : g.2.2 ≤ 6
@[simp] theorem cut2 (x y z : PyData) : cutD [x, y, z] none (some 2) = [x, y] := rfl
theorem whole_int (i : Int) : m_is_whole [.im (.int i)] = some (.im (.bool true), [.un]) := by
  simp [m_is_whole, dFn_nil, d_is_whole]
theorem stretch_eq (a b : Int) : m_is_stretch [.im (.tuple [.int a, .int b])] = some (.im (.bool (decide (0 ≤ a) && decide (a < b) && decide (b ≤ 400))), [.un]) := by
  simp [m_is_stretch, dFn_nil, d_is_stretch, whole_int]
  by_cases h : 0 ≤ a <;> by_cases g : a < b <;> simp [h, g]
theorem holds_eq (a b n : Int) (r : List PyData) : m_holds [.im (.tuple (.int a :: .int b :: r)), .im (.int n)] = some (.im (.bool (decide (a ≤ n) && decide (n < b))), [.un, .un]) := by
  simp [m_holds, dFn_nil, d_holds]
  by_cases h : a ≤ n <;> simp [h]
theorem shared_eq (a b c d : Int) : m_shared [.im (.tuple [.int a, .int b]), .im (.tuple [.int c, .int d])] = some (.im (if max a c < min b d then .tuple [.int (max a c), .int (min b d)] else .none), [.un, .un]) := by
  have e1 : (if a < c then c else a) = max a c := by omega
  have e2 : (if d < b then d else b) = min b d := by omega
  by_cases h : max a c < min b d <;> simp [m_shared, dFn_nil, d_shared, e1, e2, h]
theorem meets_eq (a b c d : Int) : m_meets [.im (.tuple [.int a, .int b]), .im (.tuple [.int c, .int d])] = some (.im (.bool (decide (max a c < min b d))), [.un, .un]) := by
  by_cases h : max a c < min b d <;> simp [m_meets, dFn_nil, d_meets, shared_eq, h]
theorem group_eq {g : Gp} (h : OkG g) : m_is_group [.im (encG g)] = some (.im (.bool true), [.un]) := by
  obtain ⟨f, b, m⟩ := g
  obtain ⟨h1, h2, h3, h4, h5⟩ := h
  dsimp only at h1 h2 h3 h4 h5
  simp [m_is_group, dFn_nil, d_is_group, encG, stretch_eq, whole_int, h1, h2, h3, h4, h5]
theorem check_body {gs : List Gp} (h : ∀ g ∈ gs, OkG g) : ∃ ρ', d_check_groups [.im (.list (gs.map encG)), .un, .un] = some (.nx, ρ') := by
  simp only [d_check_groups, e_dFor]
  simp
  have hz : (gs.map encG).zipIdx.map (fun p => PyData.tuple [.int (p.2 : Int), p.1]) = gs.zipIdx.map fun p => PyData.tuple [.int (p.2 : Int), encG p.1] := by
    rw [List.zipIdx_map, List.map_map]
    rfl
  rw [hz]
  generalize e : dLoop _ _ _ _ = L
  obtain ⟨ρ', h1, h2⟩ := at_rest e (fun rest ρ => (∀ p ∈ rest, OkG p.1) ∧ ∃ x y, ρ = [.im (.list (gs.map encG)), x, y]) ⟨fun p hp => h _ (by
    obtain ⟨a, b⟩ := p
    exact (List.mem_zipIdx' hp).2 ▸ List.getElem_mem _), _, _, rfl⟩ (by
    rintro ⟨g, k⟩ rest _ ⟨ha, x, y, rfl⟩
    simp [group_eq (ha (g, k) (.head _))]
    exact fun _ _ _ _ hp => ha _ (.tail _ hp))
  exact ⟨ρ', h1⟩
theorem check_eq {gs : List Gp} (h : ∀ g ∈ gs, OkG g) : m_check_groups [.im (.list (gs.map encG))] = some (.im .none, [.un]) := by
  obtain ⟨ρ', h1⟩ := check_body h
  simp [m_check_groups, dFn_nil, h1]
theorem check_x {gs : List Gp} (h : ∀ g ∈ gs, OkG g) : x_check_groups [.im (.list (gs.map encG))] = none := by
  obtain ⟨ρ', h1⟩ := check_body h
  simp [x_check_groups, e_dFnX, h1]
theorem alike_b (a b : Bool) : m__law_alike [.im (.bool a), .im (.bool b)] = some (.im (.bool (decide (a = b))), [.un, .un]) := by
  cases a <;> cases b <;> simp [m__law_alike, dFn_nil, d__law_alike]
end K05

set_option linter.all false
set_option maxRecDepth 100000
set_option maxHeartbeats 1000000
namespace K05
open PySem L2 DL
/-- the group fits into the row at place p -/
def Fits (row : List Int) (g : Gp) (p : Nat) : Prop := p + g.2.2.toNat ≤ row.length ∧ ∀ r, p ≤ r → r < p + g.2.2.toNat → row.getD r 0 ≤ g.1
/-- room r of the row behind -/
def cell (row : List Int) (g : Gp) (p r : Nat) : Int := if p ≤ r ∧ r < p + g.2.2.toNat then g.2.1 else if row.getD r 0 ≤ g.1 then 0 else row.getD r 0
def behindL (row : List Int) (g : Gp) (p : Nat) : List Int := (List.range row.length).map (cell row g p)
open Classical in
noncomputable def rowB (row : List Int) (g : Gp) (p : Nat) : Option (List Int) := if Fits row g p then some (behindL row g p) else none
theorem rowB_some {row x : List Int} {g : Gp} {p : Nat} : rowB row g p = some x ↔ Fits row g p ∧ x = behindL row g p := by
  unfold rowB
  split
  · next h => simp [h, eq_comm]
  · next h => simp [h]
theorem behind_len {row : List Int} {g : Gp} {p : Nat} : (behindL row g p).length = row.length := by simp [behindL]
theorem behind_get {row : List Int} {g : Gp} {p r : Nat} (h : r < row.length) : (behindL row g p).getD r 0 = cell row g p r := by
  simp [behindL, List.getD_eq_getElem?_getD, List.getElem?_range h]
theorem sl_place (row : List Int) (p m : Nat) (hp : p + m ≤ row.length) : cutD (row.map .int) (some (p : Int)) (some ((p : Int) + m)) = ((row.drop p).take m).map .int := by
  unfold cutD
  have e1 : HT.sIx (row.map PyData.int).length 0 (some (p : Int)) = p := by
    rw [HT.sIx_nat]
    simp
    omega
  have e2 : HT.sIx (row.map PyData.int).length (row.map PyData.int).length (some ((p : Int) + m)) = p + m := by
    rw [show (p : Int) + m = ((p + m : Nat) : Int) by omega, HT.sIx_nat]
    simp
    omega
  rw [e1, e2, show p + m - p = m by omega, ← List.map_drop, ← List.map_take]
theorem mem_cut {row : List Int} {p m : Nat} {x : Int} (hp : p + m ≤ row.length) : x ∈ (row.drop p).take m ↔ ∃ r, p ≤ r ∧ r < p + m ∧ row.getD r 0 = x := by
  rw [List.mem_iff_getElem?]
  constructor
  · rintro ⟨i, hi⟩
    rw [List.getElem?_take] at hi
    split at hi
    · next h =>
      rw [List.getElem?_drop] at hi
      exact ⟨p + i, by omega, by omega, by rw [List.getD_eq_getElem?_getD, hi]; rfl⟩
    · cases hi
  · rintro ⟨r, h1, h2, rfl⟩
    refine ⟨r - p, ?_⟩
    rw [List.getElem?_take, if_pos (by omega), List.getElem?_drop, show p + (r - p) = r by omega, List.getD_eq_getElem?_getD]
    rw [List.getElem?_eq_getElem (by omega)]
    rfl
theorem maxCut {row : List Int} {g : Gp} {p : Nat} (hm : 1 ≤ g.2.2) (hp : p + g.2.2.toNat ≤ row.length) : fMaxA (.tuple (((row.drop p).take g.2.2.toNat).map .int)) = some (.int (lmax ((row.drop p).take g.2.2.toNat))) ∧ (g.1 < lmax ((row.drop p).take g.2.2.toNat) ↔ ¬ Fits row g p) := by
  have hne : (row.drop p).take g.2.2.toNat ≠ [] := by
    intro q
    have := congrArg List.length q
    simp at this
    omega
  constructor
  · have hl : 0 < ((row.drop p).take g.2.2.toNat).length := List.length_pos_iff.mpr hne
    rw [f_maxt, if_pos hl]
  · rw [lmax_iff hne]
    unfold Fits
    constructor
    · rintro ⟨x, hx, q⟩ ⟨_, h⟩
      obtain ⟨r, h1, h2, rfl⟩ := (mem_cut hp).mp hx
      have := h r h1 h2
      omega
    · intro h
      apply Classical.byContradiction
      intro h'
      refine h ⟨hp, fun r h1 h2 => ?_⟩
      apply Classical.byContradiction
      intro h3
      exact h' ⟨_, (mem_cut hp).mpr ⟨r, h1, h2, rfl⟩, by omega⟩
def encO : Option (List Int) → PyData
  | none => .none
  | some r => unTup r
theorem behind_eq {row : List Int} {g : Gp} {p : Nat} (hm : 1 ≤ g.2.2) (hl : row.length ≤ 1000) : m_row_behind [.im (unTup row), .im (encG g), .im (.int (p : Int))] = some (.im (encO (rowB row g p)), [.un, .un, .un]) := by
  simp only [m_row_behind, dFn_nil, d_row_behind, unTup, encG]
  by_cases h1 : (row.length : Int) < (p : Int) + g.2.2
  · have : ¬ Fits row g p := fun h => by
      have := h.1
      omega
    simp [h1, rowB, this, encO]
  · have hp : p + g.2.2.toNat ≤ row.length := by omega
    obtain ⟨e1, e2⟩ := maxCut hm hp
    have e3 := sl_place row p g.2.2.toNat hp
    rw [show ((g.2.2.toNat : Nat) : Int) = g.2.2 by omega] at e3
    by_cases h2 : g.1 < lmax ((row.drop p).take g.2.2.toNat)
    · have : ¬ Fits row g p := e2.mp h2
      simp [h1, e3, e1, h2, rowB, this, encO, ← List.map_take, ← List.map_drop]
    · have hf : Fits row g p := Classical.byContradiction fun q => h2 (e2.mpr q)
      simp [h1, e3, e1, h2, rowB, hf, encO, ← List.map_take, ← List.map_drop, inRng_nat (show row.length ≤ 1000000 by omega)]
      generalize e : dLoop _ _ _ _ = L
      obtain ⟨ρ', h3, h4⟩ := at_loop e (fun i ρ => ∃ x, ρ = [.im (.tuple (row.map .int)), .im (encG g), .im (.int (p : Int)), .im (.int g.1), .im (.int g.2.1), .im (.int g.2.2), .ow (.lst (((List.range i).map (cell row g p)).map .int)), x]) ⟨_, rfl⟩ (by
        rintro i d _ hd ⟨x, rfl⟩
        rw [rng_eq, List.getElem?_map, Option.map_eq_some_iff] at hd
        obtain ⟨k, hk, rfl⟩ := hd
        obtain ⟨hk1, hk2⟩ := List.getElem?_eq_some_iff.mp hk
        simp at hk1 hk2
        subst hk2
        have hg : row[i]? = some (row.getD i 0) := by
          rw [List.getD_eq_getElem?_getD, List.getElem?_eq_getElem hk1]
          rfl
        have hz : i < sizeLine := lt_line (by omega)
        rw [List.range_succ, List.map_append]
        have ec : cell row g p i = if p ≤ i ∧ i < p + g.2.2.toNat then g.2.1 else if row.getD i 0 ≤ g.1 then 0 else row.getD i 0 := rfl
        generalize row.getD i 0 = v at hg ec
        by_cases q1 : p ≤ i
        · by_cases q2 : (i : Int) < (p : Int) + g.2.2
          · have q2' : i < p + g.2.2.toNat := by omega
            simp [encG, q1, q2, hz, ec, q2']
          · have q2' : ¬ i < p + g.2.2.toNat := by omega
            by_cases q3 : v ≤ g.1
            · simp [encG, q1, q2, hz, ec, q2', atI_nat', hg, q3]
            · simp [encG, q1, q2, hz, ec, q2', atI_nat', hg, q3]
        · by_cases q3 : v ≤ g.1
          · simp [encG, q1, hz, ec, atI_nat', hg, q3]
          · simp [encG, q1, hz, ec, atI_nat', hg, q3])
      subst h3
      obtain ⟨x, rfl⟩ := h4
      simp [rng, behindL, unTup]
end K05

set_option linter.all false
set_option maxRecDepth 100000
set_option maxHeartbeats 1000000
namespace K05
open PySem L2 DL
/-- rows behind, in the order they are met -/
noncomputable def rowsOf (row : List Int) (g : Gp) : List (List Int) := (List.range row.length).filterMap (rowB row g)
noncomputable def rowsG (rows : List (List Int)) (g : Gp) : List (List Int) := rows.flatMap fun row => rowsOf row g
noncomputable def keysB (rows : List (List Int)) (g : Gp) : List (List Int) := (rowsG rows g).foldl putR []
noncomputable def rowsB (rows : List (List Int)) (g : Gp) : List (List Int) := tsort (keysB rows g)
theorem mem_rowsG {rows : List (List Int)} {g : Gp} {x : List Int} : x ∈ rowsG rows g ↔ ∃ row ∈ rows, ∃ p < row.length, rowB row g p = some x := by
  simp [rowsG, rowsOf, List.mem_flatMap, List.mem_filterMap]
theorem mem_rowsB {rows : List (List Int)} {g : Gp} {x : List Int} : x ∈ rowsB rows g ↔ ∃ row ∈ rows, ∃ p < row.length, rowB row g p = some x := by
  rw [← mem_rowsG]
  unfold rowsB keysB
  rw [(tsort_perm _).mem_iff, foldl_putR]
  simp
theorem foldl_nodup {rows : List (List Int)} : ∀ {acc : List (List Int)}, acc.Nodup → (rows.foldl putR acc).Nodup := by
  induction rows with
  | nil => exact id
  | cons r rows ih => exact fun h => ih (putR_nodup h)
theorem rowsB_nodup (rows : List (List Int)) (g : Gp) : (rowsB rows g).Nodup := (tsort_perm _).nodup_iff.mpr (foldl_nodup (List.nodup_nil))
/-- sorted lists of the same rows are the same -/
theorem tsort_ext {a b : List (List Int)} (ha : a.Nodup) (hb : b.Nodup) (h : ∀ x, x ∈ a ↔ x ∈ b) : tsort a = tsort b :=
  tup_unique ((tsort_perm a).trans (((List.perm_ext_iff_of_nodup ha hb).mpr h).trans (tsort_perm b).symm)) (tsort_up a) (tsort_up b)
/-- all rows have w rooms -/
def Wd (w : Nat) (rows : List (List Int)) : Prop := ∀ r ∈ rows, r.length = w
theorem Wd.behind {w : Nat} {rows : List (List Int)} {g : Gp} (h : Wd w rows) : Wd w (rowsB rows g) := fun x hx => by
  obtain ⟨row, hr, p, hp, e⟩ := mem_rowsB.mp hx
  obtain ⟨_, rfl⟩ := rowB_some.mp e
  rw [behind_len]
  exact h row hr
theorem encO_none (o : Option (List Int)) : isNone (encO o) = o.isNone := by cases o <;> rfl
theorem behindT_eq {row : List Int} {g : Gp} {p : Nat} (hm : 1 ≤ g.2.2) (hl : row.length ≤ 1000) : m_row_behind [.im (.tuple (row.map .int)), .im (encG g), .im (.int (p : Int))] = some (.im (encO (rowB row g p)), [.un, .un, .un]) := behind_eq hm hl
theorem rows_eq {rows : List (List Int)} {g : Gp} {w : Nat} (hm : 1 ≤ g.2.2) (hw : Wd w rows) (w1 : 1 ≤ w) (w6 : w ≤ 6) (hl : rows.length ≤ 1000) : m_rows_behind [.im (.list (rows.map unTup)), .im (encG g)] = some (.im (.list ((rowsB rows g).map unTup)), [.un, .un]) := by
  simp [m_rows_behind, dFn_nil, d_rows_behind]
  generalize e : dLoop _ _ _ _ = L
  obtain ⟨ρ', h1, h2⟩ := at_rest e (fun rest ρ => ∃ ks x y z, ρ = [.im (.list (rows.map unTup)), .im (encG g), .ow (.dct (rowD ks)), x, y, z] ∧ (∀ r ∈ rest, r ∈ rows) ∧ ks.length + 6 * rest.length ≤ 6000 ∧ (rowsG rest g).foldl putR ks = keysB rows g)
    ⟨[], _, _, _, rfl, fun _ h => h, by simp; omega, rfl⟩ (by
    rintro row rest _ ⟨ks, x, y, z, rfl, ha, hk, hf⟩
    have hrl : row.length = w := hw row (ha row (.head _))
    have hlen : fLenAny (unTup row) = some (.int (row.length : Int)) := by simp [unTup]
    simp [hlen, inRng_nat (show row.length ≤ 1000000 by omega), rng_eq]
    generalize e2 : dLoop _ _ _ _ = L2
    have hfl : rowsG (row :: rest) g = rowsOf row g ++ rowsG rest g := rfl
    rw [hfl, List.foldl_append] at hf
    simp only [List.length_cons] at hk
    obtain ⟨ρ2, h3, h4⟩ := at_rest (enc := fun k : Nat => PyData.int (k : Int)) e2 (fun ps ρ => ∃ ks' y z, ρ = [.im (.list (rows.map unTup)), .im (encG g), .ow (.dct (rowD ks')), .im (unTup row), y, z] ∧ ks'.length + ps.length + 6 * rest.length ≤ 6000 ∧ (ps.filterMap (rowB row g)).foldl putR ks' = (rowsOf row g).foldl putR ks)
      ⟨ks, _, _, rfl, by simp; omega, rfl⟩ (by
      rintro p ps _ ⟨ks', y, z, rfl, hk', hf'⟩
      simp only [List.length_cons] at hk'
      have hb := behind_eq (row := row) (g := g) (p := p) hm (by omega)
      rw [List.filterMap_cons] at hf'
      cases hr : rowB row g p with
      | none =>
        rw [hr] at hb hf'
        simp [hb, encO]
        exact ⟨ks', rfl, by omega, hf'⟩
      | some r =>
        rw [hr] at hb hf'
        have hz : (rowD ks').length < sizeLine := lt_line (by simp [rowD]; omega)
        have hn : isNone (unTup r) = false := rfl
        simp [hb, encO, hn, hz, putD_row]
        have := putR_len ks' r
        exact ⟨putR ks' r, rfl, by omega, hf'⟩)
    subst h3
    obtain ⟨ks', y, z, rfl, hk', hf'⟩ := h4
    simp only [List.filterMap_nil, List.foldl_nil] at hf'
    subst hf'
    simp only [List.length_nil] at hk'
    simp
    exact ⟨_, rfl, fun r hr => ha r (.tail _ hr), by omega, hf⟩)
  subst h1
  obtain ⟨ks, x, y, z, rfl, _, _, hf⟩ := h2
  have hks : ks = keysB rows g := hf
  subst hks
  have hne : ∀ k ∈ keysB rows g, k ≠ [] := fun k hk q => by
    have hk' : k ∈ rowsB rows g := (tsort_perm _).mem_iff.mpr hk
    have := hw.behind k hk'
    rw [q] at this
    simp at this
    omega
  simp [tupKeys_row hne]
  rfl
/-- a row and a place that lead to the wanted row -/
theorem step_eq {rows : List (List Int)} {g : Gp} {w : Nat} {wanted : List Int} (hm : 1 ≤ g.2.2) (hw : Wd w rows) (w6 : w ≤ 6) (h : wanted ∈ rowsB rows g) :
    ∃ row ∈ rows, ∃ p, p < row.length ∧ rowB row g p = some wanted ∧ m_step_to [.im (.list (rows.map unTup)), .im (encG g), .im (unTup wanted)] = some (.im (.tuple [unTup row, .int (p : Int)]), [.un, .un, .un]) := by
  have hwit := mem_rowsB.mp h
  simp only [m_step_to, dFn_nil, d_step_to]
  simp
  generalize e : dLoop _ _ _ _ = L
  rcases at_restQ e (fun rest ρ => ∃ x y, ρ = [.im (.list (rows.map unTup)), .im (encG g), .im (unTup wanted), x, y] ∧ (∀ r ∈ rest, r ∈ rows) ∧ ∃ row ∈ rest, ∃ p < row.length, rowB row g p = some wanted) (fun s => ∃ row ∈ rows, ∃ p < row.length, rowB row g p = some wanted ∧ s = .im (.tuple [unTup row, .int (p : Int)]))
    ⟨_, _, rfl, fun _ h => h, hwit⟩ (by
    rintro row rest _ ⟨x, y, rfl, ha, hex⟩
    have hrl : row.length = w := hw row (ha row (.head _))
    have hlen : fLenAny (unTup row) = some (.int (row.length : Int)) := by simp [unTup]
    simp [hlen, inRng_nat (show row.length ≤ 1000000 by omega), rng_eq]
    generalize e2 : dLoop _ _ _ _ = L2
    rcases at_restQ (enc := fun k : Nat => PyData.int (k : Int)) e2 (fun ps ρ => ∃ y, ρ = [.im (.list (rows.map unTup)), .im (encG g), .im (unTup wanted), .im (unTup row), y] ∧ (∀ p ∈ ps, p < row.length) ∧ ((∃ row ∈ rest, ∃ p < row.length, rowB row g p = some wanted) ∨ ∃ p ∈ ps, rowB row g p = some wanted)) (fun s => ∃ row ∈ rows, ∃ p < row.length, rowB row g p = some wanted ∧ s = .im (.tuple [unTup row, .int (p : Int)]))
      ⟨_, rfl, by simp, by
        obtain ⟨r, hr, p, hp, q⟩ := hex
        rcases List.mem_cons.mp hr with rfl | hr
        · exact .inr ⟨p, by simpa using hp, q⟩
        · exact .inl ⟨r, hr, p, hp, q⟩⟩ (by
      rintro p ps _ ⟨y, rfl, hps, hex'⟩
      have hb := behind_eq (row := row) (g := g) (p := p) hm (by omega)
      cases hr : rowB row g p with
      | none =>
        rw [hr] at hb
        simp [hb, encO, eqD_norow]
        refine ⟨fun q hq => hps q (.tail _ hq), ?_⟩
        rcases hex' with h | ⟨q, hq, h⟩
        · exact .inl h
        · rcases List.mem_cons.mp hq with rfl | hq
          · rw [hr] at h; cases h
          · exact .inr ⟨q, hq, h⟩
      | some r =>
        rw [hr] at hb
        by_cases he : r = wanted
        · subst he
          simp [hb, encO, eqD_row]
          exact ⟨row, ha row (.head _), p, hps p (.head _), hr, rfl, rfl⟩
        · simp [hb, encO, eqD_row, he]
          refine ⟨fun q hq => hps q (.tail _ hq), ?_⟩
          rcases hex' with h | ⟨q, hq, h⟩
          · exact .inl h
          · rcases List.mem_cons.mp hq with rfl | hq
            · rw [hr] at h; cases h; exact (he rfl).elim
            · exact .inr ⟨q, hq, h⟩) with ⟨ρ2, h3, h4⟩ | ⟨s, ρ2, h3, h4⟩
    · subst h3
      obtain ⟨y, rfl, _, hex'⟩ := h4
      simp
      refine ⟨fun r hr => ha r (.tail _ hr), ?_⟩
      rcases hex' with h | ⟨q, hq, h⟩
      · exact h
      · cases hq
    · subst h3
      simpa using h4) with ⟨ρ', h1, h2⟩ | ⟨s, ρ', h1, row, hr, p, hp, hb, rfl⟩
  · obtain ⟨x, y, _, _, r, hr, _⟩ := h2
    cases hr
  · subst h1
    refine ⟨row, hr, p, hp, hb, ?_⟩
    simp
end K05

set_option linter.all false
set_option maxRecDepth 100000
set_option maxHeartbeats 1000000
namespace K05
open PySem L2 DL
def at0 (gs : List Gp) (k : Nat) : Gp := gs.getD k (0, 0, 0)
def pairsP (gs : List Gp) : List (Int × Int) := (List.range gs.length).map fun k => ((at0 gs k).1, (k : Int))
def turnN (gs : List Gp) : List Nat := (psort (pairsP gs)).map fun p => p.2.toNat
theorem at0_get {gs : List Gp} {k : Nat} (h : k < gs.length) : gs[k]? = some (at0 gs k) := by
  unfold at0
  rw [List.getD_eq_getElem?_getD, List.getElem?_eq_getElem h]
  rfl
theorem at0_mem {gs : List Gp} {k : Nat} (h : k < gs.length) : at0 gs k ∈ gs := List.mem_of_getElem? (at0_get h)
theorem mem_psort {gs : List Gp} {p : Int × Int} (h : p ∈ psort (pairsP gs)) : ∃ k < gs.length, p = ((at0 gs k).1, (k : Int)) := by
  rw [(psort_perm _).mem_iff] at h
  simp only [pairsP, List.mem_map, List.mem_range] at h
  obtain ⟨k, h1, h2⟩ := h
  exact ⟨k, h1, h2.symm⟩
theorem turn_perm (gs : List Gp) : (turnN gs).Perm (List.range gs.length) := by
  have := (psort_perm (pairsP gs)).map fun p => p.2.toNat
  unfold turnN
  refine this.trans ?_
  simp [pairsP, Function.comp_def]
theorem turn_len (gs : List Gp) : (turnN gs).length = gs.length := by simpa using (turn_perm gs).length_eq
theorem turn_lt {gs : List Gp} {k : Nat} (h : k ∈ turnN gs) : k < gs.length := by simpa using (turn_perm gs).mem_iff.mp h
theorem turn_nodup (gs : List Gp) : (turnN gs).Nodup := (turn_perm gs).nodup_iff.mpr List.nodup_range
theorem turn_up (gs : List Gp) : (turnN gs).Pairwise fun i j => (at0 gs i).1 ≤ (at0 gs j).1 := by
  unfold turnN
  rw [List.pairwise_map]
  have h := psort_up (pairsP gs)
  have h2 : (psort (pairsP gs)).Pairwise fun p q => (p ∈ psort (pairsP gs) ∧ q ∈ psort (pairsP gs)) ∧ pairLe p q = true := by
    rw [List.pairwise_iff_getElem] at h ⊢
    exact fun i j hi hj hij => ⟨⟨List.getElem_mem _, List.getElem_mem _⟩, h i j hi hj hij⟩
  refine h2.imp fun {p q} hpq => ?_
  obtain ⟨⟨m1, m2⟩, hle⟩ := hpq
  obtain ⟨k, _, rfl⟩ := mem_psort m1
  obtain ⟨l, _, rfl⟩ := mem_psort m2
  rw [pairLe_iff] at hle
  simp at hle ⊢
  omega
theorem in_turn_eq {gs : List Gp} (hl : gs.length ≤ 1000) : m_in_turn [.im (.list (gs.map encG))] = some (.im (eNs (turnN gs)), [.un]) := by
  simp [m_in_turn, dFn_nil, d_in_turn, inRng_nat (show gs.length ≤ 1000000 by omega), rng_eq]
  rw [lc_all (enc := fun k : Nat => PyData.int (k : Int)) (fun k => unPair ((at0 gs k).1, (k : Int))) (List.range gs.length) []]
  · have e1 : (List.range gs.length).map (fun k => unPair ((at0 gs k).1, (k : Int))) = (pairsP gs).map unPair := by simp [pairsP, Function.comp_def]
    have e2 : fSortP (.list ((pairsP gs).map unPair)) = some (.list ((psort (pairsP gs)).map unPair)) := by
      unfold fSortP
      rw [al_l, Option.bind_some, asPairs_map]
      rfl
    simp [e1, e2]
    rw [lc_all (enc := unPair) (fun p => .int p.2) (psort (pairsP gs)) []]
    · simp [eNs, turnN, Function.comp_def]
      rintro a b h
      obtain ⟨k, _, e⟩ := mem_psort h
      cases e
      simp
    · have : (psort (pairsP gs)).length = gs.length := by
        rw [(psort_perm _).length_eq]
        simp [pairsP]
      simp
      omega
    · rintro ⟨a, b⟩ _
      refine ⟨[.im (.list (gs.map encG)), .im (.int b), .im (.int a)], ?_⟩
      simp [unPair]
  · simp; omega
  · intro k hk
    refine ⟨_, rfl, ?_⟩
    have hg := at0_get (List.mem_range.mp hk)
    simp [atI_nat', hg, encG, unPair]
/-- the turned groups -/
def gts (gs : List Gp) : List Gp := (turnN gs).map (at0 gs)
theorem gts_perm (gs : List Gp) : (gts gs).Perm gs := by
  unfold gts
  refine ((turn_perm gs).map (at0 gs)).trans (.of_eq ?_)
  refine List.ext_getElem? fun k => ?_
  rw [List.getElem?_map]
  by_cases h : k < gs.length
  · rw [List.getElem?_range h, at0_get h]
    rfl
  · rw [List.getElem?_eq_none (by simpa using h), List.getElem?_eq_none (by omega)]
    rfl
theorem gts_len (gs : List Gp) : (gts gs).length = gs.length := (gts_perm gs).length_eq
theorem gts_up (gs : List Gp) : (gts gs).Pairwise fun g h => g.1 ≤ h.1 := List.pairwise_map.mpr (turn_up gs)
/-- the lists that lists_of tells -/
noncomputable def lst : List (List Int) → List Gp → List (List (List Int))
  | _, [] => []
  | R, g :: gs => rowsB R g :: if rowsB R g = [] then [] else lst (rowsB R g) gs
/-- the number that TooMany tells -/
noncomputable def over (n : Nat) : List (List Int) → List Gp → Option Nat
  | _, [] => none
  | R, g :: gs => if 400 < (rowsB R g).length then some (n + 1) else if rowsB R g = [] then none else over (n + 1) (rowsB R g) gs
def encRs (rows : List (List Int)) : PyData := .list (rows.map unTup)
theorem shp_rows (rows : List (List Int)) : Shp 3 (encRs rows) := shp_list fun d hd => by
  obtain ⟨r, _, rfl⟩ := List.mem_map.mp hd
  exact shp_row r
theorem eqD_rows (rows : List (List Int)) : eqD (encRs rows) (.list []) = some rows.isEmpty := by
  rw [show encRs rows = .list (rows.map unTup) from rfl, eqD_nil ((shp_rows rows).up (by omega))]
  simp
/-- the loop of lists_of -/
theorem lists_loop {gs : List Gp} {hd : PyData} (hg : ∀ g ∈ gs, OkG g) {w : Nat} (w1 : 1 ≤ w) (w6 : w ≤ 6) {g : DG} {b : DS} (hgd : g = dName 4)
    (hb : b = (dSeq (dAsg 3 (dIm (dCall m_rows_behind [] (dConsR (dEx (dVar 3)) (dConsR (dEx (dOpN fIxAny 1 (dVw 4))) dNilR)))))
    (dSeq (dApp 2 (dVar 3))
    (dSeq (dIfS (dTest (dOp fGt (dUn fLenAny (dVw 3)) (dC (.int 400)))) (dRaise 13 (dUn fLenAny (dVw 2))) dNext)
    (dIfS (dTest (dOpN fEq 3 (dIm (dLst dNil)))) dBreak dNext))))) :
    ∀ (ts : List Nat) (R : List (List Int)) (acc : List (List (List Int))) (x : Sl), (∀ t ∈ ts, t < gs.length) → Wd w R → R.length ≤ 400 → acc.length + ts.length ≤ 1000 →
      (over acc.length R (ts.map (at0 gs)) = none → ∃ R' x', dLoop g b (ts.map fun k : Nat => .int (k : Int)) [.im hd, .im (.list (gs.map encG)), .ow (.lst (acc.map encRs)), .im (encRs R), x] = some (.nx, [.im hd, .im (.list (gs.map encG)), .ow (.lst ((acc ++ lst R (ts.map (at0 gs))).map encRs)), R', x'])) ∧
      (∀ n, over acc.length R (ts.map (at0 gs)) = some n → ∃ ρ', dLoop g b (ts.map fun k : Nat => .int (k : Int)) [.im hd, .im (.list (gs.map encG)), .ow (.lst (acc.map encRs)), .im (encRs R), x] = some (.xc 13 (.int (n : Int)), ρ'))
  | [], R, acc, x, _, _, _, _ => ⟨fun _ => ⟨.im (encRs R), x, by simp [dLoop, lst]⟩, fun n h => by simp [over] at h⟩
  | t :: ts, R, acc, x, ht, hw, hR, hl => by
    have htl := ht t (.head _)
    have hget := at0_get htl
    have hok := hg _ (at0_mem htl)
    have hrow := rows_eq (rows := R) (g := at0 gs t) hok.m1 hw w1 w6 (by omega)
    simp only [List.length_cons] at hl
    have hz : acc.length < sizeLine := lt_line (by omega)
    have ih := fun hR' => lists_loop (gs := gs) (hd := hd) hg w1 w6 hgd hb ts (rowsB R (at0 gs t)) (acc ++ [rowsB R (at0 gs t)]) (.im (.int (t : Int))) (fun t h => ht t (.tail _ h)) hw.behind hR' (by simp; omega)
    have hlen : fLenAny (encRs (rowsB R (at0 gs t))) = some (.int ((rowsB R (at0 gs t)).length : Int)) := by simp [encRs]
    have heq := eqD_rows (rowsB R (at0 gs t))
    have hrow' : m_rows_behind [.im (encRs R), .im (encG (at0 gs t))] = some (.im (encRs (rowsB R (at0 gs t))), [.un, .un]) := hrow
    simp only [List.map_cons, lst, over]
    generalize hRR : rowsB R (at0 gs t) = R' at ih hlen heq hrow' ⊢
    by_cases h4 : 400 < R'.length
    · rw [if_pos h4]
      refine ⟨fun h => (by cases h), fun n hn => ?_⟩
      cases hn
      have hbody : b [.im hd, .im (.list (gs.map encG)), .ow (.lst (acc.map encRs)), .im (encRs R), .im (.int (t : Int))] = some (.xc 13 (.int ((acc.length + 1 : Nat) : Int)), [.im hd, .im (.list (gs.map encG)), .ow (.lst ((acc ++ [R']).map encRs)), .im (encRs R'), .im (.int (t : Int))]) := by
        subst hb
        have : (400 : Int) < (R'.length : Int) := by omega
        simp [atI_nat', hget, hrow', hz, hlen, this]
      exact ⟨_, turn_xc (by subst hgd; rfl) hbody⟩
    · rw [if_neg h4]
      have hn4 : ¬ (400 : Int) < (R'.length : Int) := by omega
      by_cases h0 : R' = []
      · subst h0
        rw [if_pos rfl, if_pos rfl]
        refine ⟨fun _ => ?_, fun n hn => by cases hn⟩
        have hbody : b [.im hd, .im (.list (gs.map encG)), .ow (.lst (acc.map encRs)), .im (encRs R), .im (.int (t : Int))] = some (.bk, [.im hd, .im (.list (gs.map encG)), .ow (.lst ((acc ++ [[]]).map encRs)), .im (encRs []), .im (.int (t : Int))]) := by
          subst hb
          simp [atI_nat', hget, hrow', hz, hlen, heq]
        exact ⟨_, _, turn_bk (by subst hgd; rfl) hbody⟩
      · rw [if_neg h0, if_neg h0]
        have hbody : b [.im hd, .im (.list (gs.map encG)), .ow (.lst (acc.map encRs)), .im (encRs R), .im (.int (t : Int))] = some (.nx, [.im hd, .im (.list (gs.map encG)), .ow (.lst ((acc ++ [R']).map encRs)), .im (encRs R'), .im (.int (t : Int))]) := by
          subst hb
          simp [atI_nat', hget, hrow', hz, hlen, heq, hn4, h0]
        have hstep := fun D => (turn_nx (g := g) (b := b) (d := .int (t : Int)) (ds := D) (ρ := [.im hd, .im (.list (gs.map encG)), .ow (.lst (acc.map encRs)), .im (encRs R), x]) (by subst hgd; rfl) hbody)
        obtain ⟨i1, i2⟩ := ih (by omega)
        simp only [List.length_append, List.length_singleton] at i1 i2
        refine ⟨fun h => ?_, fun n h => ?_⟩
        · obtain ⟨R2, x2, h2⟩ := i1 h
          refine ⟨R2, x2, (hstep _).trans (h2.trans ?_)⟩
          simp
        · obtain ⟨ρ2, h2⟩ := i2 n h
          exact ⟨ρ2, (hstep _).trans h2⟩
end K05

set_option linter.all false
set_option maxRecDepth 100000
set_option maxHeartbeats 1000000
namespace K05
open PySem L2 DL
theorem rep_eq (x : PyData) {n : Nat} (h : n ≤ 1000000) : fMulAny (.list [x]) (.int (n : Int)) = some (.list (List.replicate n x)) := by
  rw [f_rep, if_pos ⟨by omega, by omega, by simp; exact le_line h⟩]
  congr 2
  simp
theorem turn_seq {gs : List Gp} {w : Nat} {held : List Int} (hg : ∀ g ∈ gs, OkG g) (hl : gs.length ≤ 100) (w1 : 1 ≤ w) (w6 : w ≤ 6) (hw : held.length = w) :
    (over 0 [held] (gts gs) = none → ∃ ρ', d_lists_of [.im (eIs held), .im (.list (gs.map encG)), .un, .un, .un] = some (.rt (.im (.list ((lst [held] (gts gs)).map encRs))), ρ')) ∧
    (∀ n, over 0 [held] (gts gs) = some n → ∃ ρ', d_lists_of [.im (eIs held), .im (.list (gs.map encG)), .un, .un, .un] = some (.xc 13 (.int (n : Int)), ρ')) := by
  have hW : Wd w [held] := fun r hr => by simp at hr; subst hr; exact hw
  obtain ⟨h1, h2⟩ := lists_loop (gs := gs) (hd := eIs held) hg w1 w6 (g := dName 4) rfl rfl (turnN gs) [held] [] .un (fun t ht => turn_lt ht) hW (by simp) (by rw [turn_len]; simp; omega)
  have e0 : encRs [held] = .list [.tuple (held.map .int)] := rfl
  rw [e0] at h1 h2
  simp only [List.length_nil, List.map_nil, List.nil_append] at h1 h2
  have het : ∀ ρ, dItL (dIm (dCall m_in_turn [] (dConsR (dEx (dVar 1)) dNilR))) [.im (eIs held), .im (.list (gs.map encG)), .ow (.lst []), ρ, .un] = some ((turnN gs).map (fun k : Nat => .int (k : Int)), [.im (eIs held), .im (.list (gs.map encG)), .ow (.lst []), ρ, .un]) := fun ρ => by
    simp [in_turn_eq (show gs.length ≤ 1000 by omega), eNs]
  refine ⟨fun h => ?_, fun n h => ?_⟩
  · obtain ⟨R', x', h3⟩ := h1 h
    simp only [d_lists_of, e_dSeq]
    rw [show (dAsgO 2 (dLst dNil)) [.im (eIs held), .im (.list (gs.map encG)), .un, .un, .un] = some (.nx, [.im (eIs held), .im (.list (gs.map encG)), .ow (.lst []), .un, .un]) by simp]
    rw [seqG_nx, e_dSeq]
    rw [show (dAsg 3 (dIm (dLst (dCons (dUn fTupleOf (dVw 0)) dNil)))) [.im (eIs held), .im (.list (gs.map encG)), .ow (.lst []), .un, .un] = some (.nx, [.im (eIs held), .im (.list (gs.map encG)), .ow (.lst []), .im (.list [.tuple (held.map .int)]), .un]) by simp [eIs]]
    rw [seqG_nx, e_dSeq, e_dFor, het, forG_some]
    rw [show gts gs = (turnN gs).map (at0 gs) from rfl]
    rw [h3]
    simp
  · obtain ⟨ρ', h3⟩ := h2 n h
    simp only [d_lists_of, e_dSeq]
    rw [show (dAsgO 2 (dLst dNil)) [.im (eIs held), .im (.list (gs.map encG)), .un, .un, .un] = some (.nx, [.im (eIs held), .im (.list (gs.map encG)), .ow (.lst []), .un, .un]) by simp]
    rw [seqG_nx, e_dSeq]
    rw [show (dAsg 3 (dIm (dLst (dCons (dUn fTupleOf (dVw 0)) dNil)))) [.im (eIs held), .im (.list (gs.map encG)), .ow (.lst []), .un, .un] = some (.nx, [.im (eIs held), .im (.list (gs.map encG)), .ow (.lst []), .im (.list [.tuple (held.map .int)]), .un]) by simp [eIs]]
    rw [seqG_nx, e_dSeq, e_dFor, het, forG_some]
    rw [h3]
    simp
section
variable {gs : List Gp} {w : Nat} {held : List Int} (hg : ∀ g ∈ gs, OkG g) (hl : gs.length ≤ 100) (w1 : 1 ≤ w) (w6 : w ≤ 6) (hw : held.length = w)
include hg hl w1 w6 hw
theorem lists_eq (h : over 0 [held] (gts gs) = none) : m_lists_of [.im (eIs held), .im (.list (gs.map encG))] = some (.im (.list ((lst [held] (gts gs)).map encRs)), [.un, .un]) := by
  obtain ⟨ρ', h1⟩ := (turn_seq hg hl w1 w6 hw).1 h
  rw [m_lists_of, dFn_nil]
  simp only [List.length_cons, List.length_nil, List.cons_append, List.nil_append, List.replicate]
  rw [h1]
  simp
theorem lists_x (h : over 0 [held] (gts gs) = none) : x_lists_of [.im (eIs held), .im (.list (gs.map encG))] = none := by
  obtain ⟨ρ', h1⟩ := (turn_seq hg hl w1 w6 hw).1 h
  rw [x_lists_of, e_dFnX]
  simp only [List.length_cons, List.length_nil, List.cons_append, List.nil_append, List.replicate]
  rw [h1]
  simp
theorem lists_over {n : Nat} (h : over 0 [held] (gts gs) = some n) : x_lists_of [.im (eIs held), .im (.list (gs.map encG))] = some ((13, .int (n : Int)), [.un, .un]) := by
  obtain ⟨ρ', h1⟩ := (turn_seq hg hl w1 w6 hw).2 n h
  rw [x_lists_of, e_dFnX]
  simp only [List.length_cons, List.length_nil, List.cons_append, List.nil_append, List.replicate]
  rw [h1]
  simp [mask_nil]
end
/-- the rows behind the first k turned groups -/
noncomputable def lvl (R : List (List Int)) (G : List Gp) : Nat → List (List Int)
  | 0 => R
  | k + 1 => rowsB (lvl R G k) (at0 G k)
theorem lvl_shift (R : List (List Int)) (g : Gp) (G : List Gp) : ∀ k, lvl R (g :: G) (k + 1) = lvl (rowsB R g) G k
  | 0 => rfl
  | k + 1 => by
    rw [lvl, lvl_shift R g G k, lvl]
    rfl
theorem lvl_wd {R : List (List Int)} {G : List Gp} {w : Nat} (h : Wd w R) : ∀ k, Wd w (lvl R G k)
  | 0 => h
  | k + 1 => (lvl_wd h k).behind
theorem lst_full : ∀ {G : List Gp} {R L : List (List Int)}, (lst R G).getLast? = some L → L ≠ [] → (lst R G).length = G.length ∧ L = lvl R G G.length ∧ ∀ k < G.length, (lst R G)[k]? = some (lvl R G (k + 1))
  | [], R, L, h, _ => by simp [lst] at h
  | g :: G, R, L, h, hL => by
    rw [lst] at h ⊢
    by_cases h0 : rowsB R g = []
    · rw [if_pos h0, h0] at h
      simp at h
      exact (hL h).elim
    · rw [if_neg h0] at h ⊢
      cases G with
      | nil =>
        simp [lst] at h ⊢
        subst h
        exact ⟨rfl, rfl⟩
      | cons g2 G =>
        have hne : lst (rowsB R g) (g2 :: G) ≠ [] := by rw [lst]; simp
        rw [List.getLast?_cons_of_ne_nil hne] at h
        obtain ⟨i1, i2, i3⟩ := lst_full h hL
        refine ⟨by rw [List.length_cons, i1]; rfl, by rw [i2]; exact (lvl_shift R g (g2 :: G) _).symm, fun k hk => ?_⟩
        cases k with
        | zero => rfl
        | succ k =>
          rw [List.getElem?_cons_succ, i3 k (by simp at hk ⊢; omega), lvl_shift R g]
/-- a way through the rows -/
structure Way (held : List Int) (gs : List Gp) (ps : List Nat) (wv : Nat → List Int) : Prop where
  len : ps.length = gs.length
  st : wv 0 = held
  go : ∀ k < gs.length, rowB (wv k) (at0 (gts gs) k) (ps.getD ((turnN gs).getD k 0) 0) = some (wv (k + 1))
theorem gts_at {gs : List Gp} {k : Nat} (h : k < gs.length) : at0 (gts gs) k = at0 gs ((turnN gs).getD k 0) := by
  have hk : k < (turnN gs).length := by rw [turn_len]; exact h
  unfold gts
  rw [at0, List.getD_eq_getElem?_getD, List.getElem?_map, List.getD_eq_getElem?_getD, List.getElem?_eq_getElem hk]
  rfl
theorem turnAt_lt {gs : List Gp} {k : Nat} (h : k < gs.length) : (turnN gs).getD k 0 < gs.length := by
  have hk : k < (turnN gs).length := by rw [turn_len]; exact h
  rw [List.getD_eq_getElem?_getD, List.getElem?_eq_getElem hk]
  exact turn_lt (List.getElem_mem _)
theorem turnAt_inj {gs : List Gp} {k l : Nat} (h : k < gs.length) (h2 : l < gs.length) (e : (turnN gs).getD k 0 = (turnN gs).getD l 0) : k = l := by
  have hk : k < (turnN gs).length := by rw [turn_len]; exact h
  have hl : l < (turnN gs).length := by rw [turn_len]; exact h2
  rw [List.getD_eq_getElem?_getD, List.getElem?_eq_getElem hk, List.getD_eq_getElem?_getD, List.getElem?_eq_getElem hl] at e
  exact (List.getElem_inj (turn_nodup gs)).mp e
theorem places_eq {gs : List Gp} {w : Nat} {held : List Int} {ls : List (List (List Int))} (hg : ∀ g ∈ gs, OkG g) (hl : gs.length ≤ 100) (w1 : 1 ≤ w) (w6 : w ≤ 6) (hw : held.length = w)
    (h0 : gs ≠ []) (hls : ls.length = gs.length) (hk : ∀ k < gs.length, ls[k]? = some (lvl [held] (gts gs) (k + 1))) (h400 : ∀ k ≤ gs.length, (lvl [held] (gts gs) k).length ≤ 400) (hne : lvl [held] (gts gs) gs.length ≠ []) :
    ∃ ps wv, Way held gs ps wv ∧ m_places_by [.im (eIs held), .im (.list (gs.map encG)), .im (.list (ls.map encRs))] = some (.im (eNs ps), [.un, .un, .un]) := by
  have hW : Wd w [held] := fun r hr => by simp at hr; subst hr; exact hw
  obtain ⟨n, hn⟩ : ∃ n, gs.length = n + 1 := ⟨gs.length - 1, by have := List.length_pos_iff.mpr h0; omega⟩
  obtain ⟨first, hfirst⟩ : ∃ r, (lvl [held] (gts gs) gs.length)[0]? = some r := by
    cases hq : lvl [held] (gts gs) gs.length with
    | nil => exact (hne hq).elim
    | cons r _ => exact ⟨r, rfl⟩
  have hlast : ls.getLast? = some (lvl [held] (gts gs) gs.length) := by
    rw [List.getLast?_eq_getElem?, hls, hk _ (by omega)]
    congr 2
    omega
  obtain ⟨init, hinit⟩ : ∃ init, ls = init ++ [lvl [held] (gts gs) gs.length] := by
    rw [List.getLast?_eq_some_iff] at hlast
    exact hlast
  have hrep : ∀ ρ : DEnv, ρ = [.im (eIs held), .im (.list (gs.map encG)), .im (.list (ls.map encRs)), .un, .un, .un, .un, .un, .un] → dRepN (dIm (dLst (dCons (dC (.int 0)) dNil))) (dUn fLenAny (dVw 1)) ρ = some (.nw (.lst (List.replicate gs.length (.int 0))), ρ) := fun ρ h => by
    subst h
    exact e_dRepN (by simp) (by omega)
  simp only [m_places_by, dFn_nil, d_places_by, List.length_cons, List.length_nil, List.cons_append, List.nil_append, List.replicate, e_dSeq, e_dAsgO]
  rw [hrep _ rfl]
  have hlast' : atI (ls.map encRs) (-1) = some (encRs (lvl [held] (gts gs) gs.length)) := by
    rw [hinit, List.map_append]
    exact DL.atI_last _ _
  have hfirst' : (lvl [held] (gts gs) gs.length).map unTup ≠ [] := by simpa using hne
  have hat0 : atI ((lvl [held] (gts gs) gs.length).map unTup) 0 = some (unTup first) := by
    have := atI_nat' ((lvl [held] (gts gs) gs.length).map unTup) 0
    rw [List.getElem?_map, hfirst] at this
    exact this
  simp only [bnd_some, ao_nw, Option.map_some, seqG_nx, e_dSeq]
  simp [in_turn_eq (show gs.length ≤ 1000 by omega), hlast', encRs, hat0]
  have htl : (turnN gs).length = n + 1 := by rw [turn_len, hn]
  have hrng : ∀ ρ : DEnv, ρ = [.im (eIs held), .im (.list (gs.map encG)), .im (.list (ls.map encRs)), .ow (.lst (List.replicate gs.length (.int 0))), .im (eNs (turnN gs)), .im (unTup first), .un, .un, .un] → dRng3 (dOp fSub (dUn fLenAny (dVw 4)) (dC (PyData.int 1))) (dUn fNeg (dC (PyData.int 1))) (dUn fNeg (dC (PyData.int 1))) ρ = some (rngD (n : Int) ((n : Int) - -1).toNat, ρ) := fun ρ h =>
    e_dRng3 (ρ1 := ρ) (ρ2 := ρ) (ρ3 := ρ) (i := (n : Int)) (j := -1) (by subst h; simp [eNs, htl]) (by simp) (by simp) (inRng_nat (by omega)) (inRng_of (by omega) (by omega))
  rw [hrng _ rfl, show ((n : Int) - -1).toNat = n + 1 by omega, forG_some]
  clear hrng
  generalize e : dLoop _ _ _ _ = L
  obtain ⟨ρ', h1, h2⟩ := at_loop e (fun i ρ => ∃ ps wv x y z, ρ = [.im (eIs held), .im (.list (gs.map encG)), .im (.list (ls.map encRs)), .ow (.lst (ps.map fun k : Nat => PyData.int (k : Int))), .im (eNs (turnN gs)), .im (unTup (wv (n + 1 - i))), x, y, z] ∧
      ps.length = n + 1 ∧ wv (n + 1 - i) ∈ lvl [held] (gts gs) (n + 1 - i) ∧ ∀ k, n + 1 - i ≤ k → k < n + 1 → rowB (wv k) (at0 (gts gs) k) (ps.getD ((turnN gs).getD k 0) 0) = some (wv (k + 1)))
    ⟨List.replicate gs.length 0, fun _ => first, .un, .un, .un, by simp, by simp [hn], by rw [← hn]; exact List.mem_of_getElem? hfirst, fun k h1 h2 => by omega⟩ (by
    rintro i d _ hd ⟨ps, wv, x, y, z, rfl, hps, hmem, hway⟩
    obtain ⟨hi, rfl⟩ := rngD_get hd
    obtain ⟨k, hk1, hk2⟩ : ∃ k, n + 1 - i = k + 1 ∧ (n : Int) - i = (k : Int) := ⟨n - i, by omega, by omega⟩
    rw [hk1] at hmem hway
    have hkn : k < gs.length := by omega
    have hkg := gts_at hkn
    have htk : (turnN gs).getD k 0 < gs.length := turnAt_lt hkn
    have hok := hg _ (at0_mem htk)
    have hlv : lvl [held] (gts gs) (k + 1) = rowsB (lvl [held] (gts gs) k) (at0 (gts gs) k) := rfl
    rw [hlv] at hmem
    have h4 := h400 k (by omega)
    obtain ⟨row, hrow, p, hp, hb, hs⟩ := step_eq (w := w) (by rw [hkg]; exact hok.m1) (lvl_wd hW k) w6 hmem
    have hgt : (turnN gs)[k]? = some ((turnN gs).getD k 0) := by
      have hk' : k < (turnN gs).length := by omega
      rw [List.getD_eq_getElem?_getD, List.getElem?_eq_getElem hk']
      rfl
    have hgk : atI (gs.map encG) (((turnN gs).getD k 0 : Nat) : Int) = some (encG (at0 (gts gs) k)) := by
      rw [atI_nat', List.getElem?_map, at0_get htk, hkg]
      rfl
    have htu : atI ((turnN gs).map fun (k : Nat) => PyData.int (k : Int)) (k : Int) = some (.int (((turnN gs).getD k 0 : Nat) : Int)) := by
      rw [atI_nat', List.getElem?_map, hgt]
      rfl
    have hset : ixN ps.length (((turnN gs).getD k 0 : Nat) : Int) = some ((turnN gs).getD k 0) := ixN_nat' _ _ (by omega)
    have hi1 : n + 1 - (i + 1) = k := by omega
    have hahead : ∀ ρ, (dSeq (dAsg 7 (dIm (dLst (dCons (dUn fTupleOf (dVw 0)) dNil)))) ((dSeq (dIfS (dTest (dOpN fGt 6 (dC (PyData.int 0)))) (dAsg 7 (dOpN fIxAny 2 (dOpN fSub 6 (dC (PyData.int 1))))) dNext) ρ))) [.im (eIs held), .im (.list (gs.map encG)), .im (.list (ls.map encRs)), .ow (.lst (ps.map fun k : Nat => PyData.int (k : Int))), .im (eNs (turnN gs)), .im (unTup (wv (k + 1))), .im (.int (k : Int)), y, z] = ρ [.im (eIs held), .im (.list (gs.map encG)), .im (.list (ls.map encRs)), .ow (.lst (ps.map fun k : Nat => PyData.int (k : Int))), .im (eNs (turnN gs)), .im (unTup (wv (k + 1))), .im (.int (k : Int)), .im (encRs (lvl [held] (gts gs) k)), z] := fun ρ => by
      cases k with
      | zero =>
        simp [eIs, encRs, lvl, unTup]
      | succ k =>
        have hlk := hk k (by omega)
        have e1 : atI (ls.map encRs) (k : Int) = some (encRs (lvl [held] (gts gs) (k + 1))) := by
          rw [atI_nat', List.getElem?_map, hlk]
          rfl
        have e3 : (0 : Int) < (k : Int) + 1 := by omega
        simp [eIs, e1, e3]
    rw [hk2, hk1]
    simp only [dName, List.set, bnd_some]
    rw [hahead]
    have hs' : m_step_to [.im (encRs (lvl [held] (gts gs) k)), .im (encG (at0 (gts gs) k)), .im (unTup (wv (k + 1)))] = some (.im (.tuple [unTup row, .int (p : Int)]), [.un, .un, .un]) := hs
    obtain ⟨t, ht⟩ : ∃ t, t = (turnN gs).getD k 0 := ⟨_, rfl⟩
    rw [← ht] at hgk htu hset htk hkg
    have hbody : (dSeq (dAsgG (dIm (dCall m_step_to [] (dConsR (dEx (dVar 7)) (dConsR (dEx (dOpN fIxAny 1 (dOpN fIxAny 4 (dVw 6)))) (dConsR (dEx (dVar 5)) dNilR))))) (dGTup 2 (dGCons (dName 5) (dGCons (dName 8) dGNil))))
    (dSet 3 (dVar 8) (dOpN fIxAny 4 (dVw 6)))) [.im (eIs held), .im (.list (gs.map encG)), .im (.list (ls.map encRs)), .ow (.lst (ps.map fun k : Nat => PyData.int (k : Int))), .im (eNs (turnN gs)), .im (unTup (wv (k + 1))), .im (.int (k : Int)), .im (encRs (lvl [held] (gts gs) k)), z] =
      some (.nx, [.im (eIs held), .im (.list (gs.map encG)), .im (.list (ls.map encRs)), .ow (.lst ((ps.set t p).map fun k : Nat => PyData.int (k : Int))), .im (eNs (turnN gs)), .im (unTup row), .im (.int (k : Int)), .im (encRs (lvl [held] (gts gs) k)), .im (.int (p : Int))]) := by
      simp only [eNs]
      simp [htu, hgk, hs', hset, List.map_set]
    rw [hbody]
    have e1 : (fun j => if j = k then row else wv j) k = row := if_pos rfl
    refine goes_nx.mpr ⟨ps.set t p, fun j => if j = k then row else wv j, _, _, _, by rw [hi1, e1], by simpa using hps, by rw [hi1, e1]; exact hrow, ?_⟩
    rw [hi1]
    intro k2 hk2a hk2b
    dsimp only
    by_cases hkk : k2 = k
    · subst hkk
      rw [if_pos rfl, if_neg (by omega), ← ht]
      have : (ps.set t p).getD t 0 = p := by
        rw [List.getD_eq_getElem?_getD, List.getElem?_set_self (by omega)]
        rfl
      rw [this]
      exact hb
    · rw [if_neg hkk, if_neg (by omega)]
      have hne : t ≠ (turnN gs).getD k2 0 := fun q => hkk (turnAt_inj (by omega) hkn (by rw [← q, ht]))
      rw [List.getD_eq_getElem?_getD, List.getElem?_set_ne hne, ← List.getD_eq_getElem?_getD]
      exact hway k2 (by omega) hk2b)
  subst h1
  obtain ⟨ps, wv, x, y, z, rfl, hps, hmem, hway⟩ := h2
  have hlen : (rngD (n : Int) (n + 1)).length = n + 1 := by simp [rngD]
  rw [hlen, Nat.sub_self] at hmem hway
  refine ⟨ps, ⟨wv, ⟨by rw [hps, hn], by simpa [lvl] using hmem, fun k hk => hway k (Nat.zero_le _) (by omega)⟩⟩, ?_⟩
  simp [eNs]
/-! what laid tells -/
section
variable {gs : List Gp} {w : Nat} {held : List Int} (hg : ∀ g ∈ gs, OkG g) (hl : gs.length ≤ 100) (w1 : 1 ≤ w) (w6 : w ≤ 6) (hw : held.length = w) (h0 : gs ≠ [])
include hg hl w1 w6 hw h0
theorem laid_over {n : Nat} (h : over 0 [held] (gts gs) = some n) : x_laid [.im (eIs held), .im (.list (gs.map encG))] = some ((13, .int (n : Int)), [.un, .un]) := by
  have hx := lists_over hg hl w1 w6 hw h
  simp [x_laid, e_dFnX, d_laid, check_x hg, check_eq hg, hx, mask_nil]
theorem lst_ne : lst [held] (gts gs) ≠ [] := by
  have : gts gs ≠ [] := by
    intro q
    have := gts_len gs
    rw [q] at this
    exact h0 (List.length_eq_zero_iff.mp this.symm)
  cases hq : gts gs with
  | nil => exact (this hq).elim
  | cons g G => rw [lst]; simp
theorem lst_last : ∃ init L, lst [held] (gts gs) = init ++ [L] := by
  rcases List.eq_nil_or_concat (lst [held] (gts gs)) with h | ⟨init, L, h⟩
  · exact (lst_ne hg hl w1 w6 hw h0 h).elim
  · exact ⟨init, L, by simpa using h⟩
theorem laid_none {init : List (List (List Int))} (h : over 0 [held] (gts gs) = none) (hlast : lst [held] (gts gs) = init ++ [[]]) :
    m_laid [.im (eIs held), .im (.list (gs.map encG))] = some (.im (.tuple [.str "none", .list ((lst [held] (gts gs)).map encRs)]), [.un, .un]) ∧ x_laid [.im (eIs held), .im (.list (gs.map encG))] = none := by
  have hx := lists_x hg hl w1 w6 hw h
  have hm := lists_eq hg hl w1 w6 hw h
  have e1 : eqD (.list ((lst [held] (gts gs)).map encRs)) (.list []) = some false := by
    rw [eqD_nil ((shp_list (k := 3) fun d hd => by
      obtain ⟨r, _, rfl⟩ := List.mem_map.mp hd
      exact shp_rows r).up (by omega)), hlast]
    simp
  have e2 : atI ((lst [held] (gts gs)).map encRs) (-1) = some (encRs []) := by
    rw [hlast, List.map_append]
    exact DL.atI_last _ _
  have e3 := eqD_rows []
  generalize lst [held] (gts gs) = ll at hm e1 e2
  constructor
  · simp [m_laid, dFn_nil, d_laid, check_x hg, check_eq hg, hx, hm, e1, e2, e3]
  · simp [x_laid, e_dFnX, d_laid, check_x hg, check_eq hg, hx, hm, e1, e2, e3]
theorem laid_some {init : List (List (List Int))} {L : List (List Int)} (h : over 0 [held] (gts gs) = none) (hlast : lst [held] (gts gs) = init ++ [L]) (hL : L ≠ []) (h400 : ∀ k ≤ gs.length, (lvl [held] (gts gs) k).length ≤ 400) :
    ∃ ps wv, Way held gs ps wv ∧ m_laid [.im (eIs held), .im (.list (gs.map encG))] = some (.im (.tuple [.str "laid", eNs ps]), [.un, .un]) ∧ x_laid [.im (eIs held), .im (.list (gs.map encG))] = none := by
  have hx := lists_x hg hl w1 w6 hw h
  have hm := lists_eq hg hl w1 w6 hw h
  have e1 : eqD (.list ((lst [held] (gts gs)).map encRs)) (.list []) = some false := by
    rw [eqD_nil ((shp_list (k := 3) fun d hd => by
      obtain ⟨r, _, rfl⟩ := List.mem_map.mp hd
      exact shp_rows r).up (by omega)), hlast]
    simp
  have e2 : atI ((lst [held] (gts gs)).map encRs) (-1) = some (encRs L) := by
    rw [hlast, List.map_append]
    exact DL.atI_last _ _
  have e3 := eqD_rows L
  have e4 : L.isEmpty = false := by simpa using hL
  have hlast2 : (lst [held] (gts gs)).getLast? = some L := by rw [hlast]; simp
  obtain ⟨f1, f2, f3⟩ := lst_full hlast2 hL
  rw [gts_len] at f1 f2 f3
  obtain ⟨ps, wv, hway, hp⟩ := places_eq hg hl w1 w6 hw h0 f1 f3 h400 (by rw [← f2]; exact hL)
  refine ⟨ps, wv, hway, ?_⟩
  generalize lst [held] (gts gs) = ll at hm e1 e2 hp
  constructor
  · simp [m_laid, dFn_nil, d_laid, check_x hg, check_eq hg, hx, hm, e1, e2, e3, e4, hp]
  · simp [x_laid, e_dFnX, d_laid, check_x hg, check_eq hg, hx, hm, e1, e2, e3, e4, hp]
end
theorem laid_nil {held : List Int} : m_laid [.im (eIs held), .im (.list [])] = some (.im (.tuple [.str "laid", .list []]), [.un, .un]) ∧ x_laid [.im (eIs held), .im (.list [])] = none := by
  have hg : ∀ g ∈ ([] : List Gp), OkG g := fun g hg => by cases hg
  have h1 := check_x hg
  have h2 := check_eq hg
  have h3 := in_turn_eq (gs := []) (by simp)
  have e0 : turnN [] = [] := List.length_eq_zero_iff.mp (by simpa using turn_len [])
  simp only [List.map_nil] at h1 h2 h3
  have h5 : (d_lists_of [.im (eIs held), .im (.list []), .un, .un, .un]).map (·.1) = some (.rt (.im (.list []))) := by
    simp [d_lists_of, h3, e0, eNs, eIs, dLoop]
  have h6 : m_lists_of [.im (eIs held), .im (.list [])] = some (.im (.list []), [.un, .un]) := by
    simp only [m_lists_of, dFn_nil, List.length_cons, List.length_nil, List.cons_append, List.nil_append, List.replicate]
    rcases hq : d_lists_of [.im (eIs held), .im (.list []), .un, .un, .un] with _ | ⟨fl, ρ⟩
    · rw [hq] at h5; cases h5
    · rw [hq] at h5
      simp at h5
      subst h5
      simp
  have h7 : x_lists_of [.im (eIs held), .im (.list [])] = none := by
    simp only [x_lists_of, e_dFnX, List.length_cons, List.length_nil, List.cons_append, List.nil_append, List.replicate]
    rcases hq : d_lists_of [.im (eIs held), .im (.list []), .un, .un, .un] with _ | ⟨fl, ρ⟩
    · rw [hq] at h5; cases h5
    · rw [hq] at h5
      simp at h5
      subst h5
      simp
  constructor
  · simp [m_laid, dFn_nil, d_laid, h1, h2, h6, h7]
  · simp [x_laid, e_dFnX, d_laid, h1, h2, h6, h7]
end K05

set_option linter.all false
set_option maxRecDepth 100000
set_option maxHeartbeats 1000000
namespace K05
open PySem L2 DL
theorem int_get {l : List Int} {k : Nat} (h : k < l.length) : (l.map PyData.int)[k]? = some (.int (l.getD k 0)) := by
  rw [List.getElem?_map, List.getD_eq_getElem?_getD, List.getElem?_eq_getElem h]
  rfl
theorem gD {l : List Int} {k : Nat} (h : k < l.length) : l.getD k 0 = l[k] := by
  rw [List.getD_eq_getElem?_getD, List.getElem?_eq_getElem h]
  rfl
theorem rng_at {i n : Nat} {d : PyData} (h : (rng 0 n)[i]? = some d) : i < n ∧ d = .int (i : Int) := by
  rw [rng_eq, List.getElem?_map, Option.map_eq_some_iff] at h
  obtain ⟨k, hk, rfl⟩ := h
  obtain ⟨hk1, hk2⟩ := List.getElem?_eq_some_iff.mp hk
  simp at hk1 hk2
  subst hk2
  exact ⟨hk1, rfl⟩
structure BagOk (bag : List PyData) : Prop where
  ex : ∃ (b0 b1 b2 : Int) (cs : List Int), bag = [.int b0, .int b1, .int b2, .list (cs.map .int)] ∧ 0 ≤ b0 ∧ 0 ≤ b1 ∧ 0 ≤ b2 ∧ ∀ c ∈ cs, 0 ≤ c
theorem i40 : ixN 4 0 = some 0 := by decide
theorem i41 : ixN 4 1 = some 1 := by decide
theorem i42 : ixN 4 2 = some 2 := by decide
theorem take_eq {bag : List PyData} (h : BagOk bag) {many : Int} (h1 : 0 < many) (h2 : many ≤ 1000000) :
    ∃ v bag', m__law_take [.ow (.lst bag), .im (.int many)] = some (.im (.int v), [.ow (.lst bag'), .un]) ∧ 0 ≤ v ∧ v < many ∧ BagOk bag' := by
  obtain ⟨b0, b1, b2, cs, rfl, g0, g1, g2, gc⟩ := h.ex
  have hdiv := fun x : Int => okDiv_of (i := x) h1 (by omega)
  have hmul : ∀ x, okMul x 48271 = true := fun x => okMul_r (by omega) (by omega)
  have hmul2 : ∀ x, okMul x 39373 = true := fun x => okMul_r (by omega) (by omega)
  have hmul3 : ∀ x, okMul x 30011 = true := fun x => okMul_r (by omega) (by omega)
  have hd3 : ∀ x, okDiv x 3 = true := fun x => okDiv_of (by omega) (by omega)
  have hbig : ¬ 1000000 < many := by omega
  have fin : ∀ c1 c2 : Int, 0 ≤ c1 → 0 ≤ c2 → 0 ≤ c1 * 39373 % 1000000007 * 30011 % 998244353 / 3 % many ∧ c1 * 39373 % 1000000007 * 30011 % 998244353 / 3 % many < many := fun c1 c2 _ _ => ⟨Int.emod_nonneg _ (by omega), Int.emod_lt_of_pos _ h1⟩
  have b1n : ∀ m : Int, 0 ≤ (b1 * 48271 + m) % 2147483647 := fun m => Int.emod_nonneg _ (by omega)
  by_cases z0 : b0 = 0
  · subst z0
    by_cases z2 : b2 < cs.length
    · have hcell : (cs.map PyData.int)[b2.toNat]? = some (.int (cs.getD b2.toNat 0)) := int_get (by omega)
      have hcn : 0 ≤ cs.getD b2.toNat 0 := gc _ (by rw [gD (by omega)]; exact List.getElem_mem _)
      generalize cs.getD b2.toNat 0 = cell at hcell hcn
      by_cases zb : 1000000000000000000 ≤ cell
      · refine ⟨cell % many, [.int (cell / many), .int ((b1 * 48271 + (cell % 2147483647 + 1)) % 2147483647), .int (b2 + 1), .list (cs.map .int)], ?_, Int.emod_nonneg _ (by omega), Int.emod_lt_of_pos _ h1, ⟨_, _, _, _, rfl, Int.ediv_nonneg hcn (by omega), b1n _, by omega, gc⟩⟩
        simp [m__law_take, e_dFn, d__law_take, z2, atI_int _ _ g2, hcell, i40, i41, i42, zb, hmul, h1, hdiv, show 0 < cell by omega, maskO]
      · refine ⟨(b1 * 48271 + (cell % 2147483647 + 1)) % 2147483647 * 39373 % 1000000007 * 30011 % 998244353 / 3 % many, [.int 0, .int ((b1 * 48271 + (cell % 2147483647 + 1)) % 2147483647), .int (b2 + 1), .list (cs.map .int)], ?_, Int.emod_nonneg _ (by omega), Int.emod_lt_of_pos _ h1, ⟨_, _, _, _, rfl, by omega, b1n _, by omega, gc⟩⟩
        simp [m__law_take, e_dFn, d__law_take, z2, atI_int _ _ g2, hcell, i40, i41, i42, zb, hmul, hmul2, hmul3, hd3, h1, hdiv, hbig, maskO]
    · refine ⟨(b1 * 48271 + 12345) % 2147483647 * 39373 % 1000000007 * 30011 % 998244353 / 3 % many, [.int 0, .int ((b1 * 48271 + 12345) % 2147483647), .int b2, .list (cs.map .int)], ?_, Int.emod_nonneg _ (by omega), Int.emod_lt_of_pos _ h1, ⟨_, _, _, _, rfl, by omega, b1n _, by omega, gc⟩⟩
      simp [m__law_take, e_dFn, d__law_take, z2, i40, i41, i42, hmul, hmul2, hmul3, hd3, h1, hdiv, hbig, maskO]
  · refine ⟨b0 % many, [.int (b0 / many), .int b1, .int b2, .list (cs.map .int)], ?_, Int.emod_nonneg _ (by omega), Int.emod_lt_of_pos _ h1, ⟨_, _, _, _, rfl, Int.ediv_nonneg g0 (by omega), g1, g2, gc⟩⟩
    simp [m__law_take, e_dFn, d__law_take, z0, i40, h1, hdiv, show 0 < b0 by omega, maskO]
theorem cut63 {l : List PyData} (h : l.length ≤ 63) : cutD l none (some 63) = l := by
  unfold cutD
  rw [HT.sIx_none, show (63 : Int) = ((63 : Nat) : Int) from rfl, HT.sIx_nat, List.drop_zero, List.take_of_length_le (by omega)]
theorem bag_eq {ns : List Int} (h : ns.length ≤ 63) : ∃ bag, m__law_bag [.scr ns] = some (.ow (.lst bag), [.un]) ∧ BagOk bag := by
  refine ⟨[.int 0, .int 1234567891, .int 0, .list ((ns.map fun n => if n < 0 then -n else n).map .int)], ?_, ⟨0, 1234567891, 0, _, rfl, by omega, by omega, by omega, ?_⟩⟩
  · simp [m__law_bag, dFn_nil, d__law_bag]
    rw [cut63 (by simpa using h), lc_all (fun n => PyData.int (if n < 0 then -n else n)) ns []]
    · simp
    · simp; omega
    · intro n hn
      refine ⟨_, rfl, ?_⟩
      simp
  · intro c hc
    obtain ⟨n, _, rfl⟩ := List.mem_map.mp hc
    split <;> omega
theorem some_eq {bag : List PyData} (h : BagOk bag) {l : List PyData} (h0 : l ≠ []) (hl : l.length ≤ 1000) :
    ∃ v bag', m__law_some [.ow (.lst bag), .im (.list l)] = some (.im v, [.ow (.lst bag'), .un]) ∧ v ∈ l ∧ BagOk bag' := by
  have hp : 0 < l.length := List.length_pos_iff.mpr h0
  obtain ⟨v, bag', e, v0, v1, hb⟩ := take_eq h (many := (l.length : Int)) (by omega) (by omega)
  have hv : l[v.toNat]? = some (l[v.toNat]'(by omega)) := List.getElem?_eq_getElem _
  refine ⟨l[v.toNat]'(by omega), bag', ?_, List.getElem_mem _, hb⟩
  generalize l[v.toNat]'(by omega) = x at hv
  simp [m__law_some, e_dFn, d__law_some, e, atI_int _ _ v0, hv, maskO]
theorem mixed_eq {bag : List PyData} (h : BagOk bag) {l : List PyData} (hl : l.length ≤ 1000) :
    ∃ l' bag', m__law_mixed [.ow (.lst bag), .im (.list l)] = some (.im (.list l'), [.ow (.lst bag'), .un]) ∧ l'.Perm l ∧ BagOk bag' := by
  have b := inRng_nat (show l.length ≤ 1000000 by omega)
  simp [m__law_mixed, e_dFn, d__law_mixed, b]
  generalize e : dLoop _ _ _ _ = L
  obtain ⟨ρ', g1, g2⟩ := at_loop e (fun i ρ => ∃ f bag' x y, ρ = [.ow (.lst bag'), .im (.list l), .ow (.lst f), x, y] ∧ f.Perm l ∧ BagOk bag') ⟨l, bag, .un, .un, rfl, .refl _, h⟩ (by
    rintro i d _ hd ⟨f, bag', x, y, rfl, hf, hb⟩
    clear e
    obtain ⟨hi, rfl⟩ := rng_at hd
    have hfl := hf.length_eq
    obtain ⟨v, bag2, e, v0, v1, hb2⟩ := take_eq hb (many := (f.length : Int)) (by omega) (by omega)
    have hx : f[i]? = some (f[i]'(by omega)) := List.getElem?_eq_getElem _
    have hy : f[v.toNat]? = some (f[v.toNat]'(by omega)) := List.getElem?_eq_getElem _
    have hp := List.set_set_perm (as := f) (i := i) (j := v.toNat) (by omega) (by omega)
    have x1 : ixN f.length (i : Int) = some i := ixN_nat' _ _ (by omega)
    have x2 : ixN f.length v = some v.toNat := by
      have := ixN_nat' f.length v.toNat (by omega)
      rwa [Int.toNat_of_nonneg v0] at this
    generalize f[i]'(by omega) = u at hx hp
    generalize f[v.toNat]'(by omega) = w at hy hp
    simp [e, atI_nat', atI_int _ _ v0, hx, hy, x1, x2]
    first | exact ⟨(f.set i w).set v.toNat u, bag2, ⟨rfl, by simp⟩, hp.trans hf, hb2⟩ | exact ⟨(f.set i w).set v.toNat u, bag2, ⟨rfl, rfl⟩, hp.trans hf, hb2⟩ | exact ⟨(f.set i w).set v.toNat u, by simp, hp.trans hf, hb2⟩ | exact ⟨(f.set i w).set v.toNat u, hp.trans hf, hb2⟩)
  obtain ⟨f, bag', x, y, rfl, hf, hb⟩ := g2
  subst g1
  simp [maskO]
  exact ⟨f, bag', ⟨rfl, rfl⟩, hf, hb⟩
end K05

set_option linter.all false
set_option maxRecDepth 100000
set_option maxHeartbeats 1000000
namespace K05
open PySem L2 DL
theorem sl_list (row : List Int) (p m : Nat) (hp : p + m ≤ row.length) : cutD (row.map .int) (some (p : Int)) (some ((p : Int) + m)) = ((row.drop p).take m).map .int := sl_place row p m hp
theorem place_true {held : List Int} {g : Gp} {p : Nat} (hm : 1 ≤ g.2.2) (h : Fits held g p) : m_is_place [.im (eIs held), .im (encG g), .im (.int (p : Int))] = some (.im (.bool true), [.un, .un, .un]) := by
  have hp := h.1
  have e2 := (maxCut hm hp).2
  have e1 : fMaxA (.list (((held.drop p).take g.2.2.toNat).map .int)) = some (.int (lmax ((held.drop p).take g.2.2.toNat))) := by
    rw [f_maxl, if_pos (by simp; omega)]
  have e3 := sl_place held p g.2.2.toNat hp
  rw [show ((g.2.2.toNat : Nat) : Int) = g.2.2 by omega] at e3
  have h2 : lmax ((held.drop p).take g.2.2.toNat) ≤ g.1 := by
    apply Classical.byContradiction
    intro q
    exact e2.mp (by omega) h
  have q1 : (p : Int) ≤ (held.length : Int) - g.2.2 := by omega
  simp only [m_is_place, dFn_nil, d_is_place, encG, eIs]
  simp [whole_int, e1, e3, h2, q1, ← List.map_take, ← List.map_drop]
def Apart (g : Gp) (p : Nat) (h : Gp) (q : Nat) : Prop := max g.1 h.1 < min g.2.1 h.2.1 → (p + g.2.2.toNat ≤ q ∨ q + h.2.2.toNat ≤ p)
theorem apart_true {g h : Gp} {p q : Nat} (hm : 1 ≤ g.2.2) (hm2 : 1 ≤ h.2.2) (ha : Apart g p h q) : m_apart [.im (encG g), .im (.int (p : Int)), .im (encG h), .im (.int (q : Int))] = some (.im (.bool true), [.un, .un, .un, .un]) := by
  by_cases hc : max g.1 h.1 < min g.2.1 h.2.1
  · have ho := ha hc
    by_cases h1 : (p : Int) + g.2.2 ≤ q
    · simp [m_apart, dFn_nil, d_apart, encG, meets_eq, hc, h1]
    · have h2 : (q : Int) + h.2.2 ≤ p := by omega
      simp [m_apart, dFn_nil, d_apart, encG, meets_eq, hc, h1, h2]
  · simp [m_apart, dFn_nil, d_apart, encG, meets_eq, hc]
theorem ns_get {ps : List Nat} {k : Nat} (h : k < ps.length) : (ps.map fun (k : Nat) => PyData.int (k : Int))[k]? = some (.int (ps.getD k 0 : Nat)) := by
  rw [List.getElem?_map, List.getD_eq_getElem?_getD, List.getElem?_eq_getElem h]
  rfl
theorem g_get {gs : List Gp} {k : Nat} (h : k < gs.length) : (gs.map encG)[k]? = some (encG (at0 gs k)) := by
  rw [List.getElem?_map, at0_get h]
  rfl
theorem is_laid_true {gs : List Gp} {held : List Int} {ps : List Nat} (hg : ∀ g ∈ gs, OkG g) (hl : gs.length ≤ 100) (hps : ps.length = gs.length) (hf : ∀ k < gs.length, Fits held (at0 gs k) (ps.getD k 0))
    (ha : ∀ k < gs.length, ∀ j < k, Apart (at0 gs j) (ps.getD j 0) (at0 gs k) (ps.getD k 0)) : m_is_laid [.im (eIs held), .im (.list (gs.map encG)), .im (eNs ps)] = some (.im (.bool true), [.un, .un, .un]) := by
  simp only [m_is_laid, dFn_nil, d_is_laid, eNs, eIs]
  simp [check_eq hg, hps, inRng_nat (show gs.length ≤ 1000000 by omega)]
  generalize e : dLoop _ _ _ _ = L
  obtain ⟨ρ', h1, h2⟩ := at_loop e (fun i ρ => ∃ x y, ρ = [.im (eIs held), .im (.list (gs.map encG)), .im (eNs ps), x, y]) ⟨.un, .un, rfl⟩ (by
    rintro i d _ hd ⟨x, y, rfl⟩
    obtain ⟨hi, rfl⟩ := rng_at hd
    have e1 := g_get hi
    have e2 := ns_get (ps := ps) (k := i) (by omega)
    have hp := place_true (hg _ (at0_mem hi)).m1 (hf i hi)
    generalize ps.getD i 0 = p at e2 hp
    simp [eNs, atI_nat', e1, e2, hp])
  subst h1
  obtain ⟨x, y, rfl⟩ := h2
  simp [inRng_nat (show gs.length ≤ 1000000 by omega)]
  generalize e : dLoop _ _ _ _ = L
  obtain ⟨ρ', h1, h2⟩ := at_loop e (fun i ρ => ∃ x y, ρ = [.im (eIs held), .im (.list (gs.map encG)), .im (eNs ps), x, y]) ⟨_, _, rfl⟩ (by
    rintro i d _ hd ⟨x, y, rfl⟩
    obtain ⟨hi, rfl⟩ := rng_at hd
    simp [inRng_nat (show i ≤ 1000000 by omega)]
    generalize e2 : dLoop _ _ _ _ = L2
    obtain ⟨ρ2, h3, h4⟩ := at_loop e2 (fun j ρ => ∃ y, ρ = [.im (eIs held), .im (.list (gs.map encG)), .im (eNs ps), .im (.int (i : Int)), y]) ⟨_, rfl⟩ (by
      rintro j d _ hd ⟨y, rfl⟩
      obtain ⟨hj, rfl⟩ := rng_at hd
      have e1 := g_get hi
      have e2 := ns_get (ps := ps) (k := i) (by omega)
      have e3 := g_get (gs := gs) (k := j) (by omega)
      have e4 := ns_get (ps := ps) (k := j) (by omega)
      have hp := apart_true (hg _ (at0_mem (show j < gs.length by omega))).m1 (hg _ (at0_mem hi)).m1 (ha i hi j hj)
      generalize ps.getD i 0 = p at e2 hp
      generalize ps.getD j 0 = p2 at e4 hp
      simp [eNs, atI_nat', e1, e2, e3, e4, hp])
    subst h3
    obtain ⟨y, rfl⟩ := h4
    simp)
  subst h1
  obtain ⟨x, y, rfl⟩ := h2
  simp
theorem is_rows_true {rows : List (List Int)} {w : Nat} (hw : Wd w rows) (hl : rows.length ≤ 1000) (w6 : w ≤ 6) : m_is_rows [.im (encRs rows), .im (.int (w : Int))] = some (.im (.bool true), [.un, .un]) := by
  simp only [m_is_rows, dFn_nil, d_is_rows, encRs]
  simp
  generalize e : dLoop _ _ _ _ = L
  obtain ⟨ρ', h1, h2⟩ := at_rest e (fun rest ρ => (∀ r ∈ rest, r ∈ rows) ∧ ∃ x y, ρ = [.im (encRs rows), .im (.int (w : Int)), x, y]) ⟨fun _ h => h, .un, .un, rfl⟩ (by
    rintro row rest _ ⟨ha, x, y, rfl⟩
    have hrl := hw row (ha row (.head _))
    simp [unTup, hrl]
    generalize e2 : dLoop _ _ _ _ = L2
    obtain ⟨ρ2, h3, h4⟩ := at_rest e2 (fun rest ρ => ∃ y, ρ = [.im (encRs rows), .im (.int (w : Int)), .im (unTup row), y]) ⟨_, rfl⟩ (by
      rintro n _ _ ⟨y, rfl⟩
      simp [whole_int])
    subst h3
    obtain ⟨y, rfl⟩ := h4
    simp
    exact fun r hr => ha r (.tail _ hr))
  subst h1
  obtain ⟨_, x, y, rfl⟩ := h2
  simp
end K05

set_option linter.all false
set_option maxRecDepth 100000
set_option maxHeartbeats 1000000
namespace K05
open PySem L2 DL
theorem there_loop {a0 a1 a2 a3 a4 a5 a6 : Sl} {ks : List (List Int)} : ∀ (R : List (List Int)) (x : Sl),
    ((∀ r ∈ R, r ∈ ks) → ∃ y, dLoop (dName 8) (dIfS (dTest (dTIn true 7 (dVar 8))) (dRet (dC (.bool false))) dNext) (R.map unTup) [a0, a1, a2, a3, a4, a5, a6, .ow (.dct (rowD ks)), x] = some (.nx, [a0, a1, a2, a3, a4, a5, a6, .ow (.dct (rowD ks)), y])) ∧
    ((∃ r ∈ R, r ∉ ks) → ∃ ρ, dLoop (dName 8) (dIfS (dTest (dTIn true 7 (dVar 8))) (dRet (dC (.bool false))) dNext) (R.map unTup) [a0, a1, a2, a3, a4, a5, a6, .ow (.dct (rowD ks)), x] = some (.rt (.im (.bool false)), ρ))
  | [], x => ⟨fun _ => ⟨x, rfl⟩, fun ⟨_, h, _⟩ => nomatch h⟩
  | r :: R, x => by
    obtain ⟨i1, i2⟩ := there_loop (a0 := a0) (a1 := a1) (a2 := a2) (a3 := a3) (a4 := a4) (a5 := a5) (a6 := a6) (ks := ks) R (.im (unTup r))
    have hv := valD_row ks r
    by_cases h : r ∈ ks
    · have hv2 : ¬ valD (rowD ks) (DL.keyOf r) = none := fun q => by
        rw [q] at hv
        simp [h] at hv
      have hb : dIfS (dTest (dTIn true 7 (dVar 8))) (dRet (dC (.bool false))) dNext [a0, a1, a2, a3, a4, a5, a6, .ow (.dct (rowD ks)), .im (unTup r)] = some (.nx, [a0, a1, a2, a3, a4, a5, a6, .ow (.dct (rowD ks)), .im (unTup r)]) := by
        simp [hv2]
      have hs := fun D => turn_nx (g := dName 8) (d := unTup r) (ds := D) (ρ := [a0, a1, a2, a3, a4, a5, a6, .ow (.dct (rowD ks)), x]) rfl hb
      refine ⟨fun ha => ?_, fun he => ?_⟩
      · rw [List.map_cons, hs]
        exact i1 fun q hq => ha q (.tail _ hq)
      · rw [List.map_cons, hs]
        obtain ⟨q, hq, hn⟩ := he
        rcases List.mem_cons.mp hq with rfl | hq
        · exact (hn h).elim
        · exact i2 ⟨q, hq, hn⟩
    · have hv2 : valD (rowD ks) (DL.keyOf r) = none := Option.not_isSome_iff_eq_none.mp (by rw [hv]; simp [h])
      have hb : dIfS (dTest (dTIn true 7 (dVar 8))) (dRet (dC (.bool false))) dNext [a0, a1, a2, a3, a4, a5, a6, .ow (.dct (rowD ks)), .im (unTup r)] = some (.rt (.im (.bool false)), [a0, a1, a2, a3, a4, a5, a6, .ow (.dct (rowD ks)), .im (unTup r)]) := by
        simp [hv2]
      refine ⟨fun ha => (h (ha r (.head _))).elim, fun _ => ⟨[a0, a1, a2, a3, a4, a5, a6, .ow (.dct (rowD ks)), .im (unTup r)], ?_⟩⟩
      rw [List.map_cons]
      exact turn_rt rfl hb
/-- the rows ahead of turn k -/
def ahead (held : List Int) (ts : List (List (List Int))) : Nat → List (List Int)
  | 0 => [held]
  | k + 1 => ts.getD k []
theorem t_get {ts : List (List (List Int))} {k : Nat} (h : k < ts.length) : (ts.map encRs)[k]? = some (encRs (ts.getD k [])) := by
  rw [List.getElem?_map, List.getD_eq_getElem?_getD, List.getElem?_eq_getElem h]
  rfl
theorem t_mem {ts : List (List (List Int))} {k : Nat} (h : k < ts.length) : ts.getD k [] ∈ ts := by
  rw [List.getD_eq_getElem?_getD, List.getElem?_eq_getElem h]
  exact List.getElem_mem _
section
variable {gs : List Gp} {w : Nat} {held : List Int} {ts : List (List (List Int))} (hg : ∀ g ∈ gs, OkG g) (hl : gs.length ≤ 100) (w1 : 1 ≤ w) (w6 : w ≤ 6) (hw : held.length = w)
  (t1 : 1 ≤ ts.length) (tn : ts.length ≤ gs.length) (ht : ∀ T ∈ ts, Wd w T ∧ T.length ≤ 900)
include hg hl w1 w6 hw t1 tn ht
/-- a turn of is_none -/
theorem none_turn {i : Nat} (hi : i < ts.length) {x3 x6 x7 x8 : Sl} : ∃ y, ∀ b : DS,
    (dName 6 (.int (i : Int)) [.im (eIs held), .im (.list (gs.map encG)), .im (.list (ts.map encRs)), x3, .im (eNs (turnN gs)), .im (encRs (ahead held ts i)), x6, x7, x8]).bnd (dSeq (dAsgO 7 (dDictPT (dIm (dLc (dItL (dOpN fIxAny 2 (dVw 6))) (dName 8) dYes (dTup (dCons (dVar 8) (dCons (dC (.bool true)) dNil))) [8])))) (dSeq (dFor (dItL (dIm (dCall m_rows_behind [] (dConsR (dEx (dVar 5)) (dConsR (dEx (dOpN fIxAny 1 (dOpN fIxAny 4 (dVw 6)))) dNilR))))) (dName 8) (dIfS (dTest (dTIn true 7 (dVar 8))) (dRet (dC (.bool false))) dNext)) b)) =
    seqG b (dLoop (dName 8) (dIfS (dTest (dTIn true 7 (dVar 8))) (dRet (dC (.bool false))) dNext) ((rowsB (ahead held ts i) (at0 (gts gs) i)).map unTup) [.im (eIs held), .im (.list (gs.map encG)), .im (.list (ts.map encRs)), x3, .im (eNs (turnN gs)), .im (encRs (ahead held ts i)), .im (.int (i : Int)), .ow (.dct (rowD ((ts.getD i []).foldl putR []))), y]) := by
  have hW : Wd w [held] := fun r hr => by simp at hr; subst hr; exact hw
  obtain ⟨hT, hTl⟩ := ht _ (t_mem hi)
  have hA : Wd w (ahead held ts i) ∧ (ahead held ts i).length ≤ 1000 := by
    cases i with
    | zero => exact ⟨hW, by simp [ahead]⟩
    | succ i =>
      obtain ⟨a, b⟩ := ht _ (t_mem (show i < ts.length by omega))
      exact ⟨a, by show (ts.getD i []).length ≤ 1000; omega⟩
  have hin : i < gs.length := by omega
  have hkg := gts_at hin
  have htk := turnAt_lt hin
  have hok := hg _ (at0_mem htk)
  have hgt : atI ((turnN gs).map fun (k : Nat) => PyData.int (k : Int)) (i : Int) = some (.int (((turnN gs).getD i 0 : Nat) : Int)) := by
    rw [atI_nat', ns_get (by rw [turn_len]; exact hin)]
  have hgk : atI (gs.map encG) (((turnN gs).getD i 0 : Nat) : Int) = some (encG (at0 (gts gs) i)) := by
    rw [atI_nat', g_get htk, hkg]
  have hrow := rows_eq (g := at0 (gts gs) i) (by rw [hkg]; exact hok.m1) hA.1 w1 w6 hA.2
  have hrow' : m_rows_behind [.im (encRs (ahead held ts i)), .im (encG (at0 (gts gs) i))] = some (.im (encRs (rowsB (ahead held ts i) (at0 (gts gs) i))), [.un, .un]) := hrow
  have htg : atI (ts.map encRs) (i : Int) = some (encRs (ts.getD i [])) := by rw [atI_nat', t_get hi]
  obtain ⟨t, hte⟩ : ∃ t, t = (turnN gs).getD i 0 := ⟨_, rfl⟩
  rw [← hte] at hgk hgt
  generalize ts.getD i [] = T at htg hT hTl ⊢
  have hlc := lc_all (g := dName 8) (e := dTup (dCons (dVar 8) (dCons (dC (.bool true)) dNil))) (vs := [8]) (ρ := [.im (eIs held), .im (.list (gs.map encG)), .im (.list (ts.map encRs)), x3, .im (eNs (turnN gs)), .im (encRs (ahead held ts i)), .im (.int (i : Int)), x7, .un]) (enc := unTup) (fun r => .tuple [unTup r, .bool true]) T [] (by simp; omega) (fun r hr => ⟨_, rfl, by simp, by simp⟩)
  have hmg : mergeD [] (rowD T) = rowD (T.foldl putR []) := merge_rows T []
  refine ⟨.un, fun b => ?_⟩
  simp only [eNs, encRs] at hlc htg hrow' ⊢
  simp [htg, hlc, pairsT_rows, hgt, hgk, hrow']
  rw [hmg]
theorem none_eq (hall : ∀ k < ts.length, ∀ x ∈ rowsB (ahead held ts k) (at0 (gts gs) k), x ∈ ts.getD k []) : m_is_none [.im (eIs held), .im (.list (gs.map encG)), .im (.list (ts.map encRs))] = some (.im (.bool (ts.getD (ts.length - 1) []).isEmpty), [.un, .un, .un]) := by
  have htl : (1 : Int) ≤ (ts.length : Int) := by omega
  have htn : (ts.length : Int) ≤ (gs.length : Int) := by omega
  simp only [m_is_none, dFn_nil, d_is_none]
  simp only [eIs]
  simp [check_eq hg, htl, htn]
  generalize e : dLoop _ _ _ _ = L
  obtain ⟨ρ', h1, h2⟩ := at_rest (enc := encRs) e (fun rest ρ => (∀ T ∈ rest, T ∈ ts) ∧ ∃ x, ρ = [.im (eIs held), .im (.list (gs.map encG)), .im (.list (ts.map encRs)), x, .un, .un, .un, .un, .un]) ⟨fun _ h => h, .un, rfl⟩ (by
    rintro T rest _ ⟨ha, x, rfl⟩
    obtain ⟨a, b⟩ := ht T (ha T (.head _))
    have hr := is_rows_true a (by omega) w6
    rw [← hw] at hr
    simp [eIs, hr]
    exact fun r hr => ha r (.tail _ hr))
  subst h1
  obtain ⟨_, x, rfl⟩ := h2
  simp [in_turn_eq (show gs.length ≤ 1000 by omega), eIs, inRng_nat (show ts.length ≤ 1000000 by omega)]
  generalize e : dLoop _ _ _ _ = L
  obtain ⟨ρ', h1, h2⟩ := at_loop e (fun i ρ => ∃ x3 x6 x7 x8, ρ = [.im (eIs held), .im (.list (gs.map encG)), .im (.list (ts.map encRs)), x3, .im (eNs (turnN gs)), .im (encRs (ahead held ts i)), x6, x7, x8]) ⟨_, _, _, _, rfl⟩ (by
    rintro i d _ hd ⟨x3, x6, x7, x8, rfl⟩
    obtain ⟨hi, rfl⟩ := rng_at hd
    obtain ⟨y, hy⟩ := none_turn hg hl w1 w6 hw t1 tn ht hi (x3 := x3) (x6 := x6) (x7 := x7) (x8 := x8)
    rw [hy]
    obtain ⟨z, hz⟩ := (there_loop (a0 := .im (eIs held)) (a1 := .im (.list (gs.map encG))) (a2 := .im (.list (ts.map encRs))) (a3 := x3) (a4 := .im (eNs (turnN gs))) (a5 := .im (encRs (ahead held ts i))) (a6 := .im (.int (i : Int))) (ks := (ts.getD i []).foldl putR []) (rowsB (ahead held ts i) (at0 (gts gs) i)) y).1 (fun r hr => foldl_putR.mpr (.inr (hall i hi r hr)))
    rw [hz]
    have htg : atI (ts.map encRs) (i : Int) = some (encRs (ts.getD i [])) := by rw [atI_nat', t_get hi]
    have hah : ahead held ts (i + 1) = ts.getD i [] := rfl
    rw [hah]
    generalize ts.getD i [] = T at htg ⊢
    simp [htg])
  subst h1
  obtain ⟨x3, x6, x7, x8, rfl⟩ := h2
  have hne : ts ≠ [] := by
    intro q
    rw [q] at t1
    simp at t1
  have hlast : atI (ts.map encRs) (-1) = some (encRs (ts.getD (ts.length - 1) [])) := by
    rcases List.eq_nil_or_concat ts with h | ⟨init, L, h⟩
    · exact (hne h).elim
    · have h' : ts = init ++ [L] := by simpa using h
      rw [h', List.map_append]
      refine (DL.atI_last _ _).trans ?_
      simp
  have e3 := eqD_rows (ts.getD (ts.length - 1) [])
  obtain ⟨T, hT⟩ : ∃ T, T = ts.getD (ts.length - 1) [] := ⟨_, rfl⟩
  rw [← hT] at hlast e3
  simp [hlast, e3]
  rw [hT, List.getD_eq_getElem?_getD]
theorem none_false (hbad : ∃ x ∈ rowsB [held] (at0 (gts gs) 0), x ∉ ts.getD 0 []) : m_is_none [.im (eIs held), .im (.list (gs.map encG)), .im (.list (ts.map encRs))] = some (.im (.bool false), [.un, .un, .un]) := by
  have htl : (1 : Int) ≤ (ts.length : Int) := by omega
  have htn : (ts.length : Int) ≤ (gs.length : Int) := by omega
  simp only [m_is_none, dFn_nil, d_is_none]
  simp only [eIs]
  simp [check_eq hg, htl, htn]
  generalize e : dLoop _ _ _ _ = L
  obtain ⟨ρ', h1, h2⟩ := at_rest (enc := encRs) e (fun rest ρ => (∀ T ∈ rest, T ∈ ts) ∧ ∃ x, ρ = [.im (eIs held), .im (.list (gs.map encG)), .im (.list (ts.map encRs)), x, .un, .un, .un, .un, .un]) ⟨fun _ h => h, .un, rfl⟩ (by
    rintro T rest _ ⟨ha, x, rfl⟩
    obtain ⟨a, b⟩ := ht T (ha T (.head _))
    have hr := is_rows_true a (by omega) w6
    rw [← hw] at hr
    simp [eIs, hr]
    exact fun r hr => ha r (.tail _ hr))
  subst h1
  obtain ⟨_, x, rfl⟩ := h2
  simp [in_turn_eq (show gs.length ≤ 1000 by omega), eIs, inRng_nat (show ts.length ≤ 1000000 by omega)]
  generalize e : dLoop _ _ _ _ = L
  rcases at_loopQ e (fun i ρ => i = 0 ∧ ∃ x3 x6 x7 x8, ρ = [.im (eIs held), .im (.list (gs.map encG)), .im (.list (ts.map encRs)), x3, .im (eNs (turnN gs)), .im (encRs (ahead held ts i)), x6, x7, x8]) (fun s => s = .im (.bool false)) ⟨rfl, _, _, _, _, rfl⟩ (by
    rintro i d _ hd ⟨rfl, x3, x6, x7, x8, rfl⟩
    obtain ⟨hi, rfl⟩ := rng_at hd
    obtain ⟨y, hy⟩ := none_turn hg hl w1 w6 hw t1 tn ht hi (x3 := x3) (x6 := x6) (x7 := x7) (x8 := x8)
    rw [hy]
    obtain ⟨z, hz⟩ := (there_loop (a0 := .im (eIs held)) (a1 := .im (.list (gs.map encG))) (a2 := .im (.list (ts.map encRs))) (a3 := x3) (a4 := .im (eNs (turnN gs))) (a5 := .im (encRs (ahead held ts 0))) (a6 := .im (.int ((0 : Nat) : Int))) (ks := (ts.getD 0 []).foldl putR []) (rowsB (ahead held ts 0) (at0 (gts gs) 0)) y).2 (by
      obtain ⟨r, hr, hn⟩ := hbad
      exact ⟨r, hr, fun q => hn ((foldl_putR.mp q).elim (fun q => nomatch q) id)⟩)
    rw [hz]
    simp) with ⟨ρ', h1, h2⟩ | ⟨s, ρ', h1, rfl⟩
  · have := h2.1
    simp [rng] at this
    rw [this] at t1
    simp at t1
  · subst h1
    simp
end
end K05

set_option linter.all false
set_option maxRecDepth 100000
set_option maxHeartbeats 1000000
namespace K05
open PySem L2 DL
theorem ns_ints (l : List Nat) : (l.map fun (k : Nat) => PyData.int (k : Int)) = (l.map fun (k : Nat) => (k : Int)).map .int := by simp [Function.comp_def]
theorem inD_ns (r : Nat) (l : List Nat) : inD (.int (r : Int)) (eNs l) = some (decide (r ∈ l)) := by
  unfold eNs
  rw [ns_ints, inD_ints]
  congr 2
  rw [List.mem_map]
  exact propext ⟨fun ⟨k, h, e⟩ => by
    have : k = r := by omega
    subst this
    exact h, fun h => ⟨r, h, rfl⟩⟩
/-! lots -/
def lotsL (places : List Nat) : List (List Nat) := places.foldl (fun found p => found ++ found.map fun lot => lot ++ [p]) [[]]
def lotsN (places : List Nat) (many : Nat) : List (List Nat) := (lotsL places).filter fun lot => decide (lot.length = many)
theorem fold_len (places : List Nat) : ∀ acc : List (List Nat), (places.foldl (fun found p => found ++ found.map fun lot => lot ++ [p]) acc).length = acc.length * 2 ^ places.length := by
  induction places with
  | nil => simp
  | cons p ps ih =>
    intro acc
    rw [List.foldl_cons, ih]
    simp
    rw [Nat.pow_succ, ← Nat.mul_two, Nat.mul_assoc, Nat.mul_comm 2]
theorem lots_len {places : List Nat} (h : places.length ≤ 6) : (lotsL places).length ≤ 64 := by
  unfold lotsL
  rw [fold_len]
  have := Nat.pow_le_pow_right (show 0 < 2 by omega) h
  simp
  omega
theorem lots_eq {places : List Nat} {many : Nat} (h : places.length ≤ 6) : m__law_lots [.im (eNs places), .im (.int (many : Int))] = some (.im (.list ((lotsN places many).map eNs)), [.un, .un]) := by
  simp only [m__law_lots, dFn_nil, d__law_lots, eNs]
  simp
  generalize e : dLoop _ _ _ _ = L
  obtain ⟨ρ', h1, h2⟩ := at_rest (enc := fun k : Nat => PyData.int (k : Int)) e (fun rest ρ => ∃ found x, ρ = [.im (eNs places), .im (.int (many : Int)), .im (.list (found.map eNs)), x, .un] ∧ (∀ lot ∈ found, lot.length + rest.length ≤ 6) ∧ found.length * 2 ^ rest.length ≤ 64 ∧ rest.foldl (fun found p => found ++ found.map fun lot => lot ++ [p]) found = lotsL places) ⟨[[]], .un, rfl, by simpa using h, by
      have := Nat.pow_le_pow_right (show 0 < 2 by omega) h
      simp
      omega, rfl⟩ (by
    rintro p rest _ ⟨found, x, rfl, hb, hf, hr⟩
    have hfl : found.length * 2 ≤ 64 := by
      have := Nat.one_le_two_pow (n := rest.length)
      rw [List.length_cons, Nat.pow_succ] at hf
      have := Nat.mul_le_mul_left (found.length * 2) this
      rw [Nat.mul_one] at this
      refine Nat.le_trans this (Nat.le_trans (Nat.le_of_eq ?_) hf)
      rw [Nat.mul_assoc, Nat.mul_comm 2]
    have hlc := lc_all (g := dName 4) (e := dOpN fAddAny 4 (dIm (dLst (dCons (dVar 3) dNil)))) (vs := [4]) (ρ := [.im (eNs places), .im (.int (many : Int)), .im (.list (found.map eNs)), .im (.int (p : Int)), .un]) (enc := eNs) (fun lot => eNs (lot ++ [p])) found [] (by simp; omega) (fun lot hlot => ⟨_, rfl, by
      simp [eNs]
      have := hb lot hlot
      exact le_line (by omega), by simp⟩)
    have hz : found.length + found.length ≤ sizeLine := le_line (by omega)
    simp [hlc, hz]
    exact ⟨found ++ found.map fun lot => lot ++ [p], by simp [Function.comp_def], by
      intro lot hlot
      rcases List.mem_append.mp hlot with hlot | hlot
      · have := hb lot hlot
        simp at this
        omega
      · obtain ⟨lot2, h2, rfl⟩ := List.mem_map.mp hlot
        have := hb lot2 h2
        simp at this ⊢
        omega, by
      rw [List.length_cons, Nat.pow_succ] at hf
      simp
      rw [← Nat.mul_two, Nat.mul_assoc, Nat.mul_comm 2]
      exact hf, hr⟩)
  subst h1
  obtain ⟨found, x, rfl, _, hf, hr⟩ := h2
  have hr' : found = lotsL places := hr
  subst hr'
  have hll := lots_len h
  simp
  rw [lc_typed (enc := eNs) (fun lot => decide (lot.length = many)) eNs (lotsL places) []]
  · simp [lotsN]
  · simp; omega
  · intro lot hlot
    refine ⟨_, rfl, ?_⟩
    simp [eNs]
    omega
/-- the row of a lot -/
def rowOf (wide : Nat) (free : List Nat) (behind : Int) (lot : List Nat) : List Int := (List.range wide).map fun r => if r ∈ lot then behind else if r ∈ free then 0 else 400
def dueL (wide : Nat) (free : List Nat) (behind : Int) (number : Nat) : List (List Int) := tsort ((lotsN free number).map (rowOf wide free behind))
theorem sortT_eq {rows : List (List Int)} (h : ∀ r ∈ rows, r ≠ []) : fSortT (.list (rows.map unTup)) = some (.list ((tsort rows).map unTup)) := by
  unfold fSortT
  rw [al_l, Option.bind_some, asTupsI_map h]
  rfl
theorem law_lists_eq {wide many : Nat} {free : List Nat} {behind : Int} (w1 : 1 ≤ wide) (w6 : wide ≤ 6) (hf : free.length ≤ 6) (hm : many ≤ 100) : m__law_lists [.im (.int (wide : Int)), .im (eNs free), .im (.int (many : Int)), .im (.int behind)] =
    some (.im (.list ((List.range many).map fun k => encRs (dueL wide free behind (k + 1)))), [.un, .un, .un, .un]) := by
  have hb := inRng_nat (show many + 1 ≤ 1000000 by omega)
  have hb1 : inRng 1 = true := inRng_of (by omega) (by omega)
  simp only [Int.natCast_add, Int.natCast_one] at hb
  simp only [m__law_lists, dFn_nil, d__law_lists]
  simp [hb, hb1]
  generalize e : dLoop _ _ _ _ = L
  obtain ⟨ρ', h1, h2⟩ := at_loop e (fun i ρ => ∃ x5 x6 x7 x8 x9, ρ = [.im (.int (wide : Int)), .im (eNs free), .im (.int (many : Int)), .im (.int behind), .ow (.lst ((List.range i).map fun k => encRs (dueL wide free behind (k + 1)))), x5, x6, x7, x8, x9]) ⟨_, _, _, _, _, rfl⟩ (by
    rintro i d _ hd ⟨x5, x6, x7, x8, x9, rfl⟩
    rw [rng_from, List.getElem?_map, Option.map_eq_some_iff] at hd
    obtain ⟨k, hk, rfl⟩ := hd
    obtain ⟨hk1, hk2⟩ := List.getElem?_eq_some_iff.mp hk
    simp at hk1 hk2
    subst hk2
    have hlo := lots_eq (places := free) (many := i + 1) hf
    rw [show ((i + 1 : Nat) : Int) = 1 + (i : Int) by omega] at hlo
    have hz : i < sizeLine := lt_line (by omega)
    have hll : (lotsN free (i + 1)).length ≤ 64 := Nat.le_trans (List.length_filter_le _ _) (lots_len hf)
    simp [hlo]
    generalize e2 : dLoop _ _ _ _ = L2
    obtain ⟨ρ2, h3, h4⟩ := at_rest (enc := eNs) e2 (fun rest ρ => ∃ rows x7 x8 x9, ρ = [.im (.int (wide : Int)), .im (eNs free), .im (.int (many : Int)), .im (.int behind), .ow (.lst ((List.range i).map fun k => encRs (dueL wide free behind (k + 1)))), .im (.int (1 + (i : Int))), .ow (.lst (rows.map unTup)), x7, x8, x9] ∧ rows.length + rest.length ≤ 64 ∧ rows ++ rest.map (rowOf wide free behind) = (lotsN free (i + 1)).map (rowOf wide free behind)) ⟨[], _, _, _, rfl, by simpa using hll, rfl⟩ (by
      rintro lot rest _ ⟨rows, x7, x8, x9, rfl, hl2, hr⟩
      simp only [List.length_cons] at hl2
      have hlc := lc_all (g := dName 9) (e := dIf (dTest (dOpN fIn 9 (dVw 7))) (dVar 3) (dIf (dTest (dOpN fIn 9 (dVw 1))) (dC (.int 0)) (dC (.int 400)))) (vs := [9]) (ρ := [.im (.int (wide : Int)), .im (eNs free), .im (.int (many : Int)), .im (.int behind), .ow (.lst ((List.range i).map fun k => encRs (dueL wide free behind (k + 1)))), .im (.int (1 + (i : Int))), .ow (.lst (rows.map unTup)), .im (eNs lot), x8, .un]) (enc := fun k : Nat => PyData.int (k : Int)) (fun r => PyData.int (if r ∈ lot then behind else if r ∈ free then 0 else 400)) (List.range wide) [] (by simp; omega) (fun r _ => ⟨_, rfl, by
        by_cases q1 : r ∈ lot
        · simp [inD_ns, q1]
        · by_cases q2 : r ∈ free
          · simp [inD_ns, q1, q2]
          · simp [inD_ns, q1, q2], by simp⟩)
      have hz2 : rows.length < sizeLine := lt_line (by omega)
      simp [inRng_nat (show wide ≤ 1000000 by omega), rng_eq, hlc, hz2]
      refine ⟨rows ++ [rowOf wide free behind lot], ?_, by simp; omega, ?_⟩
      · simp [rowOf, unTup, Function.comp_def]
      · rw [← hr]
        simp)
    subst h3
    obtain ⟨rows, x7, x8, x9, rfl, _, hr⟩ := h4
    have hr' : rows = (lotsN free (i + 1)).map (rowOf wide free behind) := by simpa using hr
    subst hr'
    have hne : ∀ r ∈ (lotsN free (i + 1)).map (rowOf wide free behind), r ≠ [] := fun r hr q => by
      obtain ⟨lot, _, rfl⟩ := List.mem_map.mp hr
      have := congrArg List.length q
      simp [rowOf] at this
      omega
    have hs := sortT_eq hne
    simp only [seqG_nx, e_dApp]
    simp [hz]
    simp only [List.map_map] at hs
    simp [hs, hz, List.range_succ]
    rfl)
  subst h1
  obtain ⟨x5, x6, x7, x8, x9, rfl⟩ := h2
  simp [rng]
end K05

set_option linter.all false
set_option maxRecDepth 100000
set_option maxHeartbeats 1000000
namespace K05
open PySem L2 DL
def cov (gs : List Gp) (ps : List Nat) (night : Int) (k r : Nat) : Bool := decide ((at0 gs k).1 ≤ night) && decide (night < (at0 gs k).2.1) && decide (ps.getD k 0 ≤ r) && decide (r < ps.getD k 0 + (at0 gs k).2.2.toNat)
def own (gs : List Gp) (ps : List Nat) (night : Int) : Nat → Nat → Option Nat
  | 0, _ => none
  | n + 1, r => if cov gs ps night n r = true then some n else own gs ps night n r
def encON : Option Nat → PyData
  | none => .none
  | some k => .int (k : Int)
@[simp] theorem cut2t (x y : PyData) (l : List PyData) : cutD (x :: y :: l) none (some 2) = [x, y] := by
  unfold cutD
  rw [HT.sIx_none, show (2 : Int) = ((2 : Nat) : Int) from rfl, HT.sIx_nat]
  simp
theorem row_at_eq {gs : List Gp} {ps : List Nat} {night : Int} {w : Nat} (hg : ∀ g ∈ gs, OkG g) (hl : gs.length ≤ 100) (hps : ps.length = gs.length) (w6 : w ≤ 6) (hfit : ∀ k < gs.length, ps.getD k 0 + (at0 gs k).2.2.toNat ≤ w) :
    m_row_at [.im (.int (w : Int)), .im (.list (gs.map encG)), .im (eNs ps), .im (.int night)] = some (.im (.list ((List.range w).map fun r => encON (own gs ps night gs.length r))), [.un, .un, .un, .un]) := by
  have hrep : ∀ ρ : DEnv, ρ = [.im (.int (w : Int)), .im (.list (gs.map encG)), .im (eNs ps), .im (.int night), .un, .un, .un] → dRepN (dIm (dLst (dCons (dC .none) dNil))) (dVw 0) ρ = some (.nw (.lst (List.replicate w .none)), ρ) := fun ρ h => by
    subst h
    exact e_dRepN (by simp) (by omega)
  simp only [m_row_at, dFn_nil, d_row_at, List.length_cons, List.length_nil, List.cons_append, List.nil_append, List.replicate, e_dSeq, e_dAsgO]
  rw [hrep _ rfl]
  simp only [bnd_some, ao_nw, Option.map_some, seqG_nx, e_dSeq]
  simp [inRng_nat (show gs.length ≤ 1000000 by omega)]
  generalize e : dLoop _ _ _ _ = L
  obtain ⟨ρ', h1, h2⟩ := at_loop e (fun i ρ => ∃ x y, ρ = [.im (.int (w : Int)), .im (.list (gs.map encG)), .im (eNs ps), .im (.int night), .ow (.lst ((List.range w).map fun r => encON (own gs ps night i r))), x, y]) ⟨.un, .un, by simp [own, encON, List.map_const', Function.comp_def]⟩ (by
    rintro i d _ hd ⟨x, y, rfl⟩
    obtain ⟨hi, rfl⟩ := rng_at hd
    have hok := hg _ (at0_mem hi)
    have e1 := g_get hi
    have e2 := ns_get (ps := ps) (k := i) (by omega)
    have hfi := hfit i hi
    have ho : ∀ r, own gs ps night (i + 1) r = if (decide ((at0 gs i).1 ≤ night) && decide (night < (at0 gs i).2.1) && decide (ps.getD i 0 ≤ r) && decide (r < ps.getD i 0 + (at0 gs i).2.2.toNat)) = true then some i else own gs ps night i r := fun r => rfl
    generalize ps.getD i 0 = p at e2 hfi ho
    have hm1 := hok.m1
    have hm6 := hok.m6
    rw [show encG (at0 gs i) = .tuple [.int (at0 gs i).1, .int (at0 gs i).2.1, .int (at0 gs i).2.2] from rfl] at e1
    by_cases q1 : (at0 gs i).1 ≤ night
    · by_cases q2 : night < (at0 gs i).2.1
      · have b1 := inRng_nat (show p ≤ 1000000 by omega)
        have b2 : inRng ((p : Int) + (at0 gs i).2.2) = true := inRng_of (by omega) (by omega)
        have b3 : ((p : Int) + (at0 gs i).2.2 - p).toNat = (at0 gs i).2.2.toNat := by omega
        simp [eNs, atI_nat', e1, e2, holds_eq, q1, q2, b1, b2, b3]
        generalize e3 : dLoop _ _ _ _ = L3
        obtain ⟨ρ2, h3, h4⟩ := at_loop e3 (fun j ρ => ∃ y, ρ = [.im (.int (w : Int)), .im (.list (gs.map encG)), .im (eNs ps), .im (.int night), .ow (.lst ((List.range w).map fun r => encON (if p ≤ r ∧ r < p + j then some i else own gs ps night i r))), .im (.int (i : Int)), y]) ⟨y, by
          simp [eNs]
          intro r _
          rw [if_neg (by omega)]⟩ (by
          rintro j d _ hd ⟨y, rfl⟩
          rw [rng_from, List.getElem?_map, Option.map_eq_some_iff] at hd
          obtain ⟨k, hk, rfl⟩ := hd
          obtain ⟨hk1, hk2⟩ := List.getElem?_eq_some_iff.mp hk
          simp at hk1 hk2
          subst hk2
          have hx : ixN w ((p : Int) + (j : Int)) = some (p + j) := by
            have := ixN_nat' w (p + j) (by omega)
            rwa [show ((p + j : Nat) : Int) = (p : Int) + j by omega] at this
          simp [eNs, hx]
          refine List.ext_getElem? fun r => ?_
          rw [List.getElem?_set]
          by_cases hr : r < w
          · by_cases hrp : p + j = r
            · subst hrp
              simp [hr, encON]
            · rw [if_neg hrp]
              simp [hr]
              by_cases q3 : p ≤ r
              · by_cases q4 : r < p + j
                · simp [q3, q4, show r < p + (j + 1) by omega]
                · simp [q3, q4, show ¬ r < p + (j + 1) by omega]
              · simp [q3]
          · have hne : p + j ≠ r := by omega
            rw [if_neg hne, List.getElem?_eq_none (by simp; omega), List.getElem?_eq_none (by simp; omega)])
        subst h3
        obtain ⟨y, rfl⟩ := h4
        simp [eNs]
        intro r hr
        rw [ho r]
        simp [q1, q2, rng]
        rw [show ((p : Int) + (at0 gs i).2.2).toNat - p = (at0 gs i).2.2.toNat by omega]
      · simp [eNs, atI_nat', e1, e2, holds_eq, q1, q2]
        intro r hr
        rw [ho r]
        simp [q2]
    · simp [eNs, atI_nat', e1, e2, holds_eq, q1]
      intro r hr
      rw [ho r]
      simp [q1])
  subst h1
  obtain ⟨x, y, rfl⟩ := h2
  simp [rng]
/-- least_wide, where laid's answers for each width are known -/
theorem least_eq {gs : List Gp} {d : Nat → PyData} {most : Nat} (hg : ∀ g ∈ gs, OkG g) (h0 : gs ≠ []) (hl : gs.length ≤ 100) (m1 : 1 ≤ most)
    (hlaid : ∀ w, 1 ≤ w → w ≤ 6 → x_laid [.im (eIs (List.replicate w 0)), .im (.list (gs.map encG))] = none ∧ m_laid [.im (eIs (List.replicate w 0)), .im (.list (gs.map encG))] = some (.im (.tuple [.str (if most ≤ w then "laid" else "none"), d w]), [.un, .un])) :
    m_least_wide [.im (.list (gs.map encG))] = some (.im (if most ≤ 6 then .tuple [.str "wide", .int (most : Int), d most, if most = 1 then .list [] else d (most - 1)] else .tuple [.str "none", d 6]), [.un]) := by
  have e0 : eqD (.list (gs.map encG)) (.list []) = some false := by
    rw [eqD_nil ((shp_list (k := 2) fun d hd => by
      obtain ⟨g, _, rfl⟩ := List.mem_map.mp hd
      exact shp_tup (by simp; exact ⟨shp_int _, shp_int _, shp_int _⟩)).up (by omega))]
    simp [h0]
  have hb7 : inRng 7 = true := inRng_of (by omega) (by omega)
  have hb1 : inRng 1 = true := inRng_of (by omega) (by omega)
  simp only [m_least_wide, dFn_nil, d_least_wide]
  simp [check_x hg, check_eq hg, e0, hb7, hb1]
  generalize e : dLoop _ _ _ _ = L
  rcases at_loopQ e (fun i ρ => i < most ∧ ∃ x y z, ρ = [.im (.list (gs.map encG)), .im (if i = 0 then .list [] else d i), x, y, z]) (fun s => most ≤ 6 ∧ s = .im (.tuple [.str "wide", .int (most : Int), d most, if most = 1 then .list [] else d (most - 1)])) ⟨by omega, .un, .un, .un, rfl⟩ (by
    rintro i dd _ hd ⟨hi, x, y, z, rfl⟩
    rw [rng_from, List.getElem?_map, Option.map_eq_some_iff] at hd
    obtain ⟨k, hk, rfl⟩ := hd
    obtain ⟨hk1, hk2⟩ := List.getElem?_eq_some_iff.mp hk
    simp at hk1 hk2
    subst hk2
    obtain ⟨l1, l2⟩ := hlaid (i + 1) (by omega) (by omega)
    have hr := rep_eq (.int 0) (show i + 1 ≤ 1000000 by omega)
    rw [show ((i + 1 : Nat) : Int) = 1 + (i : Int) by omega] at hr
    rw [show eIs (List.replicate (i + 1) 0) = .list (List.replicate (i + 1) (.int 0)) by simp [eIs]] at l1 l2
    by_cases hm : most ≤ i + 1
    · have hm2 : most = i + 1 := by omega
      rw [if_pos hm] at l2
      simp [hr, l1, l2]
      refine ⟨by omega, by omega, by rw [hm2], ?_⟩
      rw [hm2]
      by_cases hi0 : i = 0 <;> simp [hi0]
    · rw [if_neg hm] at l2
      have hs : ¬ (("none" : Str) = "laid") := by decide +kernel
      simp [hr, l1, l2, hs]
      omega) with ⟨ρ', h1, h2, x, y, z, rfl⟩ | ⟨s, ρ', h1, h2, rfl⟩
  · subst h1
    have : ¬ most ≤ 6 := by
      simp [rng] at h2
      omega
    simp [rng, this]
  · subst h1
    simp [h2]
theorem least_nil : m_least_wide [.im (.list [])] = some (.im (.tuple [.str "wide", .int 0, .list [], .list []]), [.un]) := by
  have hg : ∀ g ∈ ([] : List Gp), OkG g := fun g hg => by cases hg
  have h1 := check_x hg
  have h2 := check_eq hg
  simp only [List.map_nil] at h1 h2
  simp [m_least_wide, dFn_nil, d_least_wide, h1, h2]
end K05

set_option linter.all false
set_option maxRecDepth 100000
set_option maxHeartbeats 1000000
namespace K05
open PySem L2 DL
section
variable {gs : List Gp} {held : List Int} {ps : List Nat} {wv : Nat → List Int} (hg : ∀ g ∈ gs, OkG g) (W : Way held gs ps wv)
/-- the k-th turned group and its place -/
abbrev tg (gs : List Gp) (k : Nat) : Gp := at0 (gts gs) k
abbrev tp (gs : List Gp) (ps : List Nat) (k : Nat) : Nat := ps.getD ((turnN gs).getD k 0) 0
theorem tg_ok {k : Nat} (hg : ∀ g ∈ gs, OkG g) (hk : k < gs.length) : OkG (tg gs k) := by
  unfold tg
  rw [gts_at hk]
  exact hg _ (at0_mem (turnAt_lt hk))
theorem tg_up {k l : Nat} (hkl : k ≤ l) (hl : l < gs.length) : (tg gs k).1 ≤ (tg gs l).1 := by
  rcases Nat.lt_or_eq_of_le hkl with h | rfl
  · have hu := List.pairwise_iff_getElem.mp (gts_up gs) k l (by rw [gts_len]; omega) (by rw [gts_len]; omega) h
    unfold tg at0
    rw [List.getD_eq_getElem?_getD, List.getElem?_eq_getElem (by rw [gts_len]; omega), List.getD_eq_getElem?_getD, List.getElem?_eq_getElem (by rw [gts_len]; omega)]
    exact hu
  · exact Int.le_refl _
include W
theorem way_len : ∀ k ≤ gs.length, (wv k).length = held.length
  | 0, _ => by rw [W.st]
  | k + 1, h => by
    obtain ⟨_, e⟩ := rowB_some.mp (W.go k (by omega))
    rw [e, behind_len, way_len k (by omega)]
theorem way_step {x : Int} {r k : Nat} (hr : r < held.length) (hk : k < gs.length) (h : x ≤ (wv k).getD r 0 ∨ ∃ j < k, x ≤ (tg gs j).1) : x ≤ (wv (k + 1)).getD r 0 ∨ ∃ j < k + 1, x ≤ (tg gs j).1 := by
  rcases h with h | ⟨j, h1, h2⟩
  · obtain ⟨hf, e⟩ := rowB_some.mp (W.go k hk)
    have hl := way_len W k (by omega)
    rw [e, behind_get (by omega)]
    unfold cell
    split
    · next hp =>
      have := hf.2 r hp.1 hp.2
      exact .inr ⟨k, by omega, Int.le_trans h this⟩
    · split
      · next hq => exact .inr ⟨k, by omega, Int.le_trans h hq⟩
      · exact .inl h
  · exact .inr ⟨j, by omega, h2⟩
theorem way_keep {x : Int} {r k : Nat} (hr : r < held.length) : ∀ l, k ≤ l → l ≤ gs.length → (x ≤ (wv k).getD r 0 ∨ ∃ j < k, x ≤ (tg gs j).1) → x ≤ (wv l).getD r 0 ∨ ∃ j < l, x ≤ (tg gs j).1
  | 0, h1, _, h => by
    have : k = 0 := by omega
    subst this
    exact h
  | l + 1, h1, h2, h => by
    by_cases e : k = l + 1
    · subst e; exact h
    · exact way_step W hr (by omega) (way_keep hr l (by omega) (by omega) h)
theorem way_low {x : Int} {r k l : Nat} (hr : r < held.length) (hkl : k ≤ l) (hl : l < gs.length) (h : x ≤ (wv k).getD r 0) (h1 : tp gs ps l ≤ r) (h2 : r < tp gs ps l + (tg gs l).2.2.toNat) : x ≤ (tg gs l).1 := by
  obtain ⟨hf, _⟩ := rowB_some.mp (W.go l hl)
  rcases way_keep W (x := x) hr l hkl (by omega) (.inl h) with h3 | ⟨j, h3, h4⟩
  · exact Int.le_trans h3 (hf.2 r h1 h2)
  · exact Int.le_trans h4 (tg_up (by omega) hl)
theorem way_fits {k : Nat} (hk : k < gs.length) : Fits held (tg gs k) (tp gs ps k) := by
  obtain ⟨hf, _⟩ := rowB_some.mp (W.go k hk)
  have hl := way_len W k (by omega)
  have h1 : tp gs ps k + (tg gs k).2.2.toNat ≤ (wv k).length := hf.1
  refine ⟨by rw [← hl]; exact h1, fun r hr1 hr2 => ?_⟩
  exact way_low W (by omega) (Nat.zero_le _) hk (by rw [W.st]; exact Int.le_refl _) hr1 hr2
include hg
theorem way_apart {i j : Nat} (hij : i < j) (hj : j < gs.length) (hm : max (tg gs i).1 (tg gs j).1 < min (tg gs i).2.1 (tg gs j).2.1) : tp gs ps i + (tg gs i).2.2.toNat ≤ tp gs ps j ∨ tp gs ps j + (tg gs j).2.2.toNat ≤ tp gs ps i := by
  apply Classical.byContradiction
  intro h
  have o1 := (tg_ok hg (show i < gs.length by omega)).m1
  have o2 := (tg_ok hg hj).m1
  have f1 : tp gs ps i + (tg gs i).2.2.toNat ≤ held.length := (way_fits W (show i < gs.length by omega)).1
  have f2 : tp gs ps j + (tg gs j).2.2.toNat ≤ held.length := (way_fits W hj).1
  obtain ⟨r, r1, r2, r3, r4⟩ : ∃ r, tp gs ps i ≤ r ∧ r < tp gs ps i + (tg gs i).2.2.toNat ∧ tp gs ps j ≤ r ∧ r < tp gs ps j + (tg gs j).2.2.toNat := ⟨max (tp gs ps i) (tp gs ps j), by omega, by omega, by omega, by omega⟩
  obtain ⟨_, e⟩ := rowB_some.mp (W.go i (by omega))
  have hl := way_len W i (by omega)
  have hb : (tg gs i).2.1 ≤ (wv (i + 1)).getD r 0 := by
    rw [e, behind_get (by omega)]
    unfold cell
    rw [if_pos ⟨r1, r2⟩]
    exact Int.le_refl _
  have := way_low W (by omega) hij hj hb r3 r4
  omega
theorem turn_of {k : Nat} (hk : k < gs.length) : ∃ t < gs.length, (turnN gs).getD t 0 = k := by
  have : k ∈ turnN gs := (turn_perm gs).mem_iff.mpr (List.mem_range.mpr hk)
  obtain ⟨t, ht, e⟩ := List.mem_iff_getElem.mp this
  refine ⟨t, by rw [← turn_len]; exact ht, ?_⟩
  rw [List.getD_eq_getElem?_getD, List.getElem?_eq_getElem ht, e]
  rfl
theorem way_fit0 {k : Nat} (hk : k < gs.length) : Fits held (at0 gs k) (ps.getD k 0) := by
  obtain ⟨t, ht, e⟩ := turn_of hg W hk
  have := way_fits W ht
  unfold tg tp at this
  rw [gts_at ht, e] at this
  exact this
theorem way_apart0 {j k : Nat} (hk : k < gs.length) (hj : j < gs.length) (hjk : j ≠ k) : Apart (at0 gs j) (ps.getD j 0) (at0 gs k) (ps.getD k 0) := by
  obtain ⟨a, ha, ea⟩ := turn_of hg W hj
  obtain ⟨b, hb, eb⟩ := turn_of hg W hk
  have hne : a ≠ b := fun q => hjk (by rw [← ea, ← eb, q])
  have e1 : tg gs a = at0 gs j := by unfold tg; rw [gts_at ha, ea]
  have e2 : tg gs b = at0 gs k := by unfold tg; rw [gts_at hb, eb]
  have e3 : tp gs ps a = ps.getD j 0 := by unfold tp; rw [ea]
  have e4 : tp gs ps b = ps.getD k 0 := by unfold tp; rw [eb]
  intro hm
  rw [← e1, ← e2] at hm
  rw [← e1, ← e2, ← e3, ← e4]
  rcases Nat.lt_or_gt_of_ne hne with h | h
  · exact way_apart hg W h hb hm
  · have := way_apart hg W h ha (by omega)
    omega
theorem way_is_laid (hl : gs.length ≤ 100) : m_is_laid [.im (eIs held), .im (.list (gs.map encG)), .im (eNs ps)] = some (.im (.bool true), [.un, .un, .un]) :=
  is_laid_true hg hl W.len (fun k hk => way_fit0 hg W hk) fun k hk j hj => way_apart0 hg W hk (by omega) (by omega)
end
/-! the lists by their levels -/
theorem lst_some : ∀ {G : List Gp} {R : List (List Int)}, (∀ k < G.length, lvl R G (k + 1) ≠ []) → lst R G = (List.range G.length).map fun k => lvl R G (k + 1)
  | [], R, _ => rfl
  | g :: G, R, h => by
    have h0 : rowsB R g ≠ [] := h 0 (by simp)
    rw [lst, if_neg h0, List.length_cons, List.range_succ_eq_map, List.map_cons, List.map_map]
    congr 1
    rw [lst_some fun k hk => by
      have := h (k + 1) (by simp; omega)
      rwa [lvl_shift R g] at this]
    exact List.map_congr_left fun k _ => (lvl_shift R g G (k + 1)).symm
theorem lst_none : ∀ {G : List Gp} {R : List (List Int)} {k0 : Nat}, k0 < G.length → (∀ k < k0, lvl R G (k + 1) ≠ []) → lvl R G (k0 + 1) = [] → lst R G = (List.range (k0 + 1)).map fun k => lvl R G (k + 1)
  | [], R, k0, h, _, _ => by simp at h
  | g :: G, R, 0, _, _, h => by
    have h0 : rowsB R g = [] := h
    rw [lst, if_pos h0, h0]
    simp [lvl, at0, h0]
  | g :: G, R, k0 + 1, h1, h2, h3 => by
    have h0 : rowsB R g ≠ [] := h2 0 (by omega)
    rw [lst, if_neg h0, List.range_succ_eq_map, List.map_cons, List.map_map]
    congr 1
    rw [lvl_shift] at h3
    rw [lst_none (k0 := k0) (by simpa using h1) (fun k hk => by
      have := h2 (k + 1) (by omega)
      rwa [lvl_shift R g] at this) h3]
    exact List.map_congr_left fun k _ => (lvl_shift R g G (k + 1)).symm
theorem over_none : ∀ {G : List Gp} {R : List (List Int)} {n : Nat}, (∀ k < G.length, (lvl R G (k + 1)).length ≤ 400) → over n R G = none
  | [], R, n, _ => rfl
  | g :: G, R, n, h => by
    have h0 : (rowsB R g).length ≤ 400 := h 0 (by simp)
    rw [over, if_neg (by omega)]
    split
    · rfl
    · exact over_none fun k hk => by
        have := h (k + 1) (by simp; omega)
        rwa [lvl_shift R g] at this
theorem over_some : ∀ {G : List Gp} {R : List (List Int)} {n k0 : Nat}, k0 < G.length → (∀ k < k0, lvl R G (k + 1) ≠ [] ∧ (lvl R G (k + 1)).length ≤ 400) → 400 < (lvl R G (k0 + 1)).length → over n R G = some (n + k0 + 1)
  | [], R, n, k0, h, _, _ => by simp at h
  | g :: G, R, n, 0, _, _, h => by
    have h0 : 400 < (rowsB R g).length := h
    rw [over, if_pos h0]
  | g :: G, R, n, k0 + 1, h1, h2, h3 => by
    obtain ⟨h0, h4⟩ : rowsB R g ≠ [] ∧ (rowsB R g).length ≤ 400 := h2 0 (by omega)
    rw [over, if_neg (by omega), if_neg h0]
    rw [lvl_shift] at h3
    rw [over_some (k0 := k0) (by simpa using h1) (fun k hk => by
      have := h2 (k + 1) (by omega)
      rwa [lvl_shift R g] at this) h3]
    congr 1
    omega
end K05

set_option linter.all false
set_option maxRecDepth 100000
set_option maxHeartbeats 1000000
namespace K05
open PySem L2 DL
theorem lots_snoc (ps : List Nat) (p : Nat) : lotsL (ps ++ [p]) = lotsL ps ++ (lotsL ps).map fun lot => lot ++ [p] := by
  unfold lotsL
  rw [List.foldl_append]
  rfl
theorem mem_lots : ∀ (n : Nat) (places : List Nat), places.length = n → ∀ lot, lot ∈ lotsL places ↔ lot.Sublist places
  | 0, places, h, lot => by
    have : places = [] := List.length_eq_zero_iff.mp h
    subst this
    simp [lotsL]
  | n + 1, places, h, lot => by
    rcases List.eq_nil_or_concat places with rfl | ⟨ps, p, e⟩
    · simp at h
    · have e' : places = ps ++ [p] := by simpa using e
      subst e'
      have ih := mem_lots n ps (by simpa using h)
      rw [lots_snoc, List.mem_append, ih, List.mem_map, List.sublist_append_iff]
      constructor
      · rintro (h | ⟨l, h1, rfl⟩)
        · exact ⟨lot, [], by simp, h, by simp⟩
        · exact ⟨l, [p], rfl, (ih l).mp h1, List.Sublist.refl _⟩
      · rintro ⟨a, b, rfl, h1, h2⟩
        rcases b with _ | ⟨x, b⟩
        · exact .inl (by simpa using h1)
        · have hl : b.length + 1 ≤ 1 := h2.length_le
          have hb : b = [] := List.length_eq_zero_iff.mp (by omega)
          subst hb
          have : x ∈ [p] := h2.subset (.head _)
          rw [List.mem_singleton] at this
          subst this
          exact .inr ⟨a, (ih a).mpr h1, rfl⟩
theorem lots_mem {places lot : List Nat} : lot ∈ lotsL places ↔ lot.Sublist places := mem_lots _ places rfl lot
theorem lots_nodup : ∀ (n : Nat) (places : List Nat), places.length = n → places.Nodup → (lotsL places).Nodup
  | 0, places, h, _ => by
    have : places = [] := List.length_eq_zero_iff.mp h
    subst this
    simp [lotsL]
  | n + 1, places, h, hn => by
    rcases List.eq_nil_or_concat places with rfl | ⟨ps, p, e⟩
    · simp at h
    · have e' : places = ps ++ [p] := by simpa using e
      subst e'
      have hn' := List.nodup_append.mp hn
      have ih := lots_nodup n ps (by simpa using h) hn'.1
      rw [lots_snoc, List.nodup_append]
      refine ⟨ih, ?_, ?_⟩
      · exact List.pairwise_map.mpr (ih.imp fun h q => h (List.append_cancel_right q))
      · intro a ha b hb q
        obtain ⟨l, _, rfl⟩ := List.mem_map.mp hb
        have hs := lots_mem.mp ha
        have : p ∈ ps := hs.subset (by rw [q]; simp)
        exact hn'.2.2 p this p (by simp) rfl
theorem mem_lotsN {places lot : List Nat} {n : Nat} : lot ∈ lotsN places n ↔ lot.Sublist places ∧ lot.length = n := by
  unfold lotsN
  rw [List.mem_filter, lots_mem, decide_eq_true_iff]
theorem lotsN_nodup {places : List Nat} {n : Nat} (h : places.Nodup) : (lotsN places n).Nodup := (lots_nodup _ places rfl h).filter _
section
variable {w : Nat} {free : List Nat} {f b : Int} (f0 : 0 ≤ f) (fb : f < b) (f4 : f < 400) (hfn : free.Nodup) (hfw : ∀ r ∈ free, r < w)
theorem row_get {lot : List Nat} {r : Nat} (h : r < w) : (rowOf w free b lot).getD r 0 = if r ∈ lot then b else if r ∈ free then 0 else 400 := by
  simp [rowOf, List.getD_eq_getElem?_getD, List.getElem?_range h]
theorem row_len {lot : List Nat} : (rowOf w free b lot).length = w := by simp [rowOf]
include f0 fb f4
theorem row_fits {lot : List Nat} {p : Nat} : Fits (rowOf w free b lot) (f, b, 1) p ↔ p < w ∧ p ∈ free ∧ p ∉ lot := by
  unfold Fits
  rw [row_len]
  constructor
  · rintro ⟨h1, h2⟩
    have hp : p < w := by
      have : (1 : Int).toNat = 1 := rfl
      simp only [this] at h1
      omega
    have := h2 p (Nat.le_refl _) (by show p < p + 1; omega)
    rw [row_get hp] at this
    by_cases q1 : p ∈ lot
    · rw [if_pos q1] at this
      dsimp only at this
      omega
    · rw [if_neg q1] at this
      by_cases q2 : p ∈ free
      · exact ⟨hp, q2, q1⟩
      · rw [if_neg q2] at this
        dsimp only at this
        omega
  · rintro ⟨h1, h2, h3⟩
    refine ⟨by show p + 1 ≤ w; omega, fun r r1 r2 => ?_⟩
    have r2 : r < p + 1 := r2
    have : r = p := by omega
    subst this
    rw [row_get h1, if_neg h3, if_pos h2]
    exact f0
theorem row_behind {lot lot' : List Nat} {p : Nat} (hp : p ∈ free) (hl : ∀ r, r ∈ lot' ↔ r ∈ lot ∨ r = p) : behindL (rowOf w free b lot) (f, b, 1) p = rowOf w free b lot' := by
  unfold behindL
  rw [row_len]
  unfold rowOf
  refine List.map_congr_left fun r hr => ?_
  have hr := List.mem_range.mp hr
  unfold cell
  have hc : (p ≤ r ∧ r < p + ((f, b, 1) : Gp).2.2.toNat) ↔ r = p := by
    show (p ≤ r ∧ r < p + 1) ↔ r = p
    omega
  have hg := row_get (free := free) (b := b) (lot := lot) hr
  unfold rowOf at hg
  rw [hg]
  by_cases q : r = p
  · rw [if_pos (hc.mpr q), if_pos ((hl r).mpr (.inr q))]
  · rw [if_neg fun h => q (hc.mp h)]
    by_cases q1 : r ∈ lot
    · rw [if_pos q1, if_pos ((hl r).mpr (.inl q1)), if_neg (by dsimp only; omega)]
    · have q2 : r ∉ lot' := fun h => ((hl r).mp h).elim q1 q
      rw [if_neg q1, if_neg q2]
      by_cases q3 : r ∈ free
      · rw [if_pos q3, if_pos f0]
      · rw [if_neg q3, if_neg (by dsimp only; omega)]
include hfn hfw
theorem row_rows {lot : List Nat} {x : List Int} {n : Nat} : (∃ row, (∃ lot, lot.Sublist free ∧ lot.length = n ∧ row = rowOf w free b lot) ∧ ∃ p < row.length, rowB row (f, b, 1) p = some x) ↔ ∃ lot, lot.Sublist free ∧ lot.length = n + 1 ∧ x = rowOf w free b lot := by
  constructor
  · rintro ⟨_, ⟨lot, h1, h2, rfl⟩, p, hp, h3⟩
    obtain ⟨hf, rfl⟩ := rowB_some.mp h3
    obtain ⟨p1, p2, p3⟩ := (row_fits f0 fb f4).mp hf
    refine ⟨free.filter fun r => decide (r ∈ lot ∨ r = p), List.filter_sublist, ?_, ?_⟩
    · have hperm : (free.filter fun r => decide (r ∈ lot ∨ r = p)).Perm (p :: lot) := by
        refine (List.perm_ext_iff_of_nodup (hfn.filter _) (List.nodup_cons.mpr ⟨p3, hfn.sublist h1⟩)).mpr fun r => ?_
        rw [List.mem_filter, decide_eq_true_iff, List.mem_cons]
        constructor
        · rintro ⟨_, h | h⟩
          · exact .inr h
          · exact .inl h
        · rintro (h | h)
          · exact ⟨h ▸ p2, .inr h⟩
          · exact ⟨h1.subset h, .inl h⟩
      rw [hperm.length_eq, List.length_cons, h2]
    · refine row_behind f0 fb f4 p2 fun r => ?_
      rw [List.mem_filter, decide_eq_true_iff]
      constructor
      · exact fun h => h.2
      · rintro (h | h)
        · exact ⟨h1.subset h, .inl h⟩
        · exact ⟨h ▸ p2, .inr h⟩
  · rintro ⟨lot, h1, h2, rfl⟩
    cases lot with
    | nil => simp at h2
    | cons p lot =>
      have hp : p ∈ free := h1.subset (.head _)
      have hn := List.nodup_cons.mp (hfn.sublist h1)
      refine ⟨rowOf w free b lot, ⟨lot, (List.sublist_cons_self p lot).trans h1, by simpa using h2, rfl⟩, p, by rw [row_len]; exact hfw p hp, ?_⟩
      refine rowB_some.mpr ⟨(row_fits f0 fb f4).mpr ⟨hfw p hp, hp, hn.1⟩, ?_⟩
      refine (row_behind f0 fb f4 hp fun r => ?_).symm
      rw [List.mem_cons]
      exact ⟨fun h => h.elim .inr .inl, fun h => h.elim .inr .inl⟩
theorem mem_lvl {G : List Gp} {many : Nat} (hG : ∀ k < many, at0 G k = (f, b, 1)) : ∀ n, n ≤ many → ∀ x, x ∈ lvl [rowOf w free b []] G n ↔ ∃ lot, lot.Sublist free ∧ lot.length = n ∧ x = rowOf w free b lot
  | 0, _, x => by
    simp only [lvl, List.mem_singleton]
    constructor
    · rintro rfl
      exact ⟨[], by simp, rfl, rfl⟩
    · rintro ⟨lot, _, h, rfl⟩
      rw [List.length_eq_zero_iff.mp h]
  | n + 1, h, x => by
    rw [lvl, mem_rowsB, hG n (by omega), ← row_rows f0 fb f4 hfn hfw (lot := [])]
    constructor
    · rintro ⟨row, hr, hp⟩
      exact ⟨row, (mem_lvl hG n (by omega) row).mp hr, hp⟩
    · rintro ⟨row, hr, hp⟩
      exact ⟨row, (mem_lvl hG n (by omega) row).mpr hr, hp⟩
theorem rows_nodup {n : Nat} (b0 : b ≠ 0) : ((lotsN free n).map (rowOf w free b)).Nodup := by
  have h := lotsN_nodup (n := n) hfn
  refine List.pairwise_map.mpr ?_
  have h2 : (lotsN free n).Pairwise fun p q => (p ∈ lotsN free n ∧ q ∈ lotsN free n) ∧ p ≠ q := by
    have h := List.pairwise_iff_getElem.mp h
    rw [List.pairwise_iff_getElem]
    exact fun i j hi hj hij => ⟨⟨List.getElem_mem _, List.getElem_mem _⟩, h i j hi hj hij⟩
  refine h2.imp fun {p q} hpq e => hpq.2 ?_
  have hp := (mem_lotsN.mp hpq.1.1).1
  have hq := (mem_lotsN.mp hpq.1.2).1
  have key : ∀ r ∈ free, r ∈ p ↔ r ∈ q := fun r hr => by
    have := congrArg (fun l : List Int => l.getD r 0) e
    simp only [row_get (hfw r hr), if_pos hr] at this
    by_cases q1 : r ∈ p <;> by_cases q2 : r ∈ q
    · simp [q1, q2]
    · rw [if_pos q1, if_neg q2] at this
      exact (b0 this).elim
    · rw [if_neg q1, if_pos q2] at this
      exact (b0 this.symm).elim
    · simp [q1, q2]
  have fp : ∀ {l : List Nat}, l.Sublist free → ∀ r, r ∈ l → r ∈ free := fun h r hr => h.subset hr
  have e1 : ∀ {l : List Nat}, l.Sublist free → l = free.filter fun r => decide (r ∈ l) := fun {l} hl => by
    have hperm : l.Perm (free.filter fun r => decide (r ∈ l)) := (List.perm_ext_iff_of_nodup (hfn.sublist hl) (hfn.filter _)).mpr fun r => by
      rw [List.mem_filter, decide_eq_true_iff]
      exact ⟨fun h => ⟨hl.subset h, h⟩, fun h => h.2⟩
    have hs : l.Sublist (free.filter fun r => decide (r ∈ l)) := by
      have := hl.filter fun r => decide (r ∈ l)
      rwa [List.filter_eq_self.mpr (by simp)] at this
    exact hs.eq_of_length hperm.length_eq
  rw [e1 hp, e1 hq]
  refine List.filter_congr fun r hr => ?_
  simp only [key r hr]
theorem lvl_due {G : List Gp} {many : Nat} (hG : ∀ k < many, at0 G k = (f, b, 1)) {n : Nat} (h : n + 1 ≤ many) : lvl [rowOf w free b []] G (n + 1) = dueL w free b (n + 1) := by
  unfold dueL
  have hm := mem_lvl f0 fb f4 hfn hfw hG (n + 1) h
  rw [lvl, rowsB]
  refine tsort_ext (foldl_nodup List.nodup_nil) (rows_nodup f0 fb f4 hfn hfw (by omega)) fun x => ?_
  have h1 : x ∈ keysB (lvl [rowOf w free b []] G n) (at0 G n) ↔ x ∈ lvl [rowOf w free b []] G (n + 1) := by
    rw [lvl, rowsB, (tsort_perm _).mem_iff]
  rw [h1, hm, List.mem_map]
  constructor
  · rintro ⟨lot, a, b, rfl⟩
    exact ⟨lot, mem_lotsN.mpr ⟨a, b⟩, rfl⟩
  · rintro ⟨lot, a, rfl⟩
    obtain ⟨a, b⟩ := mem_lotsN.mp a
    exact ⟨lot, a, b, rfl⟩
end
theorem due_len {w n : Nat} {free : List Nat} {b : Int} (h : free.length ≤ 6) : (dueL w free b n).length ≤ 64 := by
  unfold dueL
  rw [(tsort_perm _).length_eq, List.length_map]
  exact Nat.le_trans (List.length_filter_le _ _) (lots_len h)
theorem due_ne {w n : Nat} {free : List Nat} {b : Int} (h : n ≤ free.length) : dueL w free b n ≠ [] := fun q => by
  have h1 : rowOf w free b (free.take n) ∈ dueL w free b n := (tsort_perm _).mem_iff.mpr (List.mem_map.mpr ⟨_, mem_lotsN.mpr ⟨List.take_sublist n free, by simp; omega⟩, rfl⟩)
  rw [q] at h1
  cases h1
theorem due_nil {w n : Nat} {free : List Nat} {b : Int} (h : free.length < n) : dueL w free b n = [] := by
  cases hq : dueL w free b n with
  | nil => rfl
  | cons x l =>
    have hx : x ∈ dueL w free b n := by rw [hq]; exact .head _
    unfold dueL at hx
    rw [(tsort_perm _).mem_iff, List.mem_map] at hx
    obtain ⟨lot, h1, _⟩ := hx
    obtain ⟨h2, h3⟩ := mem_lotsN.mp h1
    have := h2.length_le
    omega
theorem due_wd {w n : Nat} {free : List Nat} {b : Int} : Wd w (dueL w free b n) := fun x hx => by
  unfold dueL at hx
  rw [(tsort_perm _).mem_iff, List.mem_map] at hx
  obtain ⟨lot, _, rfl⟩ := hx
  exact row_len
end K05

set_option linter.all false
set_option maxRecDepth 100000
set_option maxHeartbeats 1000000
namespace K05
open PySem L2 DL
/-- a comprehension whose turns draw from the bag -/
theorem draws {α : Type} {g : DG} {e : DI} {vs : List Nat} {enc : α → PyData} (Env : List PyData → DEnv) (R : α → PyData → Prop) : ∀ (xs : List α) (bag acc : List PyData), BagOk bag → acc.length + xs.length ≤ 1000000 →
    (∀ bag, BagOk bag → ∀ x ∈ xs, ∃ ρ1 ρ2 v bag', g (enc x) (Env bag) = some ρ1 ∧ e ρ1 = some (v, ρ2) ∧ wipeD ρ2 vs = Env bag' ∧ BagOk bag' ∧ R x v) →
    ∃ ds bag', dTurns g dYes e vs (xs.map enc) (Env bag) acc = some (acc ++ ds, Env bag') ∧ BagOk bag' ∧ ds.length = xs.length ∧ ∀ (i : Nat) (x : α), xs[i]? = some x → ∃ d, ds[i]? = some d ∧ R x d
  | [], bag, acc, hb, _, _ => ⟨[], bag, by simp [dTurns], hb, rfl, fun i x h => by simp at h⟩
  | x :: xs, bag, acc, hb, hl, h => by
    obtain ⟨ρ1, ρ2, v, bag1, h1, h2, h3, h4, h5⟩ := h bag hb x (.head _)
    simp only [List.length_cons] at hl
    obtain ⟨ds, bag2, k1, k2, k3, k4⟩ := draws Env R xs bag1 (acc ++ [v]) h4 (by simp; omega) fun bag hb y hy => h bag hb y (.tail _ hy)
    refine ⟨v :: ds, bag2, ?_, k2, by simp [k3], fun i y hy => ?_⟩
    · simp only [List.map_cons, dTurns, h1, Option.bind_some, e_dYes, if_true, h2]
      rw [if_pos (lt_line (by omega)), h3, k1, List.append_assoc]
      rfl
    · cases i with
      | zero => 
        simp at hy
        subst hy
        exact ⟨v, rfl, h5⟩
      | succ i => exact k4 i y (by simpa using hy)
theorem cut_take (l : List PyData) (m : Nat) : cutD l none (some (m : Int)) = l.take m := by
  unfold cutD
  rw [HT.sIx_none, HT.sIx_nat, List.drop_zero, Nat.sub_zero]
  by_cases h : m ≤ l.length
  · rw [Nat.min_eq_left h]
  · rw [Nat.min_eq_right (by omega), List.take_of_length_le (Nat.le_refl _), List.take_of_length_le (by omega)]
theorem cut_drop (l : List PyData) (m : Nat) : cutD l (some (m : Int)) none = l.drop m := by
  unfold cutD
  rw [HT.sIx_none, HT.sIx_nat]
  by_cases h : m ≤ l.length
  · rw [Nat.min_eq_left h, List.take_of_length_le (by simp)]
  · rw [Nat.min_eq_right (by omega), List.drop_eq_nil_of_le (Nat.le_refl _), List.drop_eq_nil_of_le (by omega)]
    simp
theorem cut_init (l : List PyData) (x : PyData) : cutD (l ++ [x]) none (some (-1)) = l := by
  unfold cutD
  rw [HT.sIx_none]
  have : HT.sIx (l ++ [x]).length (l ++ [x]).length (some (-1)) = l.length := by
    simp [HT.sIx]
    omega
  rw [this]
  simp
theorem perm_dec {α : Type} {enc : α → PyData} {dec : PyData → α} (h : ∀ x, dec (enc x) = x) {l' : List PyData} {l : List α} (p : l'.Perm (l.map enc)) : ∃ l2 : List α, l' = l2.map enc ∧ l2.Perm l := by
  refine ⟨l'.map dec, ?_, ?_⟩
  · rw [List.map_map]
    have : l'.map (enc ∘ dec) = l'.map id := List.map_congr_left fun d hd => by
      obtain ⟨x, _, rfl⟩ := List.mem_map.mp (p.mem_iff.mp hd)
      show enc (dec (enc x)) = enc x
      rw [h]
    rw [this, List.map_id]
  · refine (p.map dec).trans (.of_eq ?_)
    rw [List.map_map]
    have : l.map (dec ∘ enc) = l.map id := List.map_congr_left fun x _ => h x
    rw [this, List.map_id]
def decN : PyData → Nat
  | .int i => i.toNat
  | _ => 0
def decR (d : PyData) : List Int := ((asTup d).bind asInts).getD []
def decG : PyData → Gp
  | .tuple [.int a, .int b, .int c] => (a, b, c)
  | _ => (0, 0, 0)
theorem decN_enc (k : Nat) : decN (.int (k : Int)) = k := by simp [decN]
theorem decR_enc (r : List Int) : decR (unTup r) = r := by
  show (((asTup (.tuple (r.map .int))).bind asInts).getD []) = r
  simp [asInts_map]
theorem decG_enc (g : Gp) : decG (encG g) = g := rfl
theorem eqvAll_rows : ∀ a b : List (List Int), PyData.eqvAll (a.map unTup) (b.map unTup) = decide (a = b)
  | [], [] => by simp [PyData.eqvAll]
  | [], y :: b => by simp [PyData.eqvAll]
  | x :: a, [] => by simp [PyData.eqvAll]
  | x :: a, y :: b => by
    have h1 := eqvAll_rows a b
    have h2 : PyData.eqv (unTup x) (unTup y) = decide (x = y) := eqvAll_ints x y
    simp only [List.map_cons, PyData.eqvAll, h1, h2, List.cons.injEq]
    by_cases h : x = y <;> simp [h]
theorem eqD_rr (a b : List (List Int)) : eqD (encRs a) (encRs b) = some (decide (a = b)) := by
  have h1 := ((shp_rows a).up (show 3 ≤ 64 by omega)).sh (Nat.le_refl _)
  have h2 := ((shp_rows b).up (show 3 ≤ 64 by omega)).sh (Nat.le_refl _)
  show (if SeqAt.shaped (encRs a) = true ∧ SeqAt.shaped (encRs b) = true then some (PyData.eqv (encRs a) (encRs b)) else none) = _
  rw [if_pos ⟨h1, h2⟩]
  show some (PyData.eqvAll (a.map unTup) (b.map unTup)) = _
  rw [eqvAll_rows]
theorem shp_none_s : Shp 1 (.str "none") := shp_str (by decide +kernel)
theorem shp_laid_s : Shp 1 (.str "laid") := shp_str (by decide +kernel)
theorem shp_wide_s : Shp 1 (.str "wide") := shp_str (by decide +kernel)
@[simp] theorem s_ln : (("laid" : Str) = "none") = False := eq_false (by decide +kernel)
@[simp] theorem s_nl : (("none" : Str) = "laid") = False := eq_false (by decide +kernel)
theorem shp_lists (ts : List (List (List Int))) : Shp 4 (.list (ts.map encRs)) := shp_list fun d hd => by
  obtain ⟨r, _, rfl⟩ := List.mem_map.mp hd
  exact shp_rows r
theorem eqD_none (ts : List (List (List Int))) : eqD (.tuple [.str "none", .list (ts.map encRs)]) (.tuple [.str "none", .list (ts.map encRs)]) = some true :=
  eqD_self ((shp_tup (k := 4) (by
    intro d hd
    simp at hd
    rcases hd with rfl | rfl
    · exact shp_none_s.up (by omega)
    · exact shp_lists ts)).up (by omega))
/-- what sorted(places) is -/
theorem sortI_ns {ps : List Nat} {l : List Nat} (hl : l.Pairwise (· < ·)) (hp : ps.Nodup) (hm : ∀ x, x ∈ l ↔ x ∈ ps) : fSortI (eNs ps) = some (eNs l) := by
  unfold fSortI eNs
  rw [ns_ints, intsOf]
  simp only [al_l, Option.bind_some, asInts_map, Option.map_some]
  rw [ns_ints]
  congr 3
  have h1 : (isort (ps.map fun (k : Nat) => (k : Int))).Perm (l.map fun (k : Nat) => (k : Int)) := by
    refine (isort_perm _).trans (List.Perm.map _ ?_)
    exact (List.perm_ext_iff_of_nodup hp (hl.imp fun h => Nat.ne_of_lt h)).mpr fun x => (hm x).symm
  refine up_unique h1 (isort_up _) (List.pairwise_map.mpr (hl.imp fun h => by omega))
end K05

set_option linter.all false
set_option maxRecDepth 100000
set_option maxHeartbeats 1000000
namespace K05
open PySem L2 DL
/-- what a draw of single rooms is about -/
structure Sing (w many : Nat) (hs : List Int) (f b : Int) : Prop where
  w1 : 1 ≤ w
  w6 : w ≤ 6
  len : hs.length = w
  all : ∀ x ∈ hs, x = 0 ∨ x = 400
  m8 : many ≤ 8
  f0 : 0 ≤ f
  f3 : f ≤ 299
  fb : f < b
  b3 : b ≤ 302
def freeL (w : Nat) (hs : List Int) : List Nat := (List.range w).filter fun r => decide (hs.getD r 0 = 0)
def sg (many : Nat) (f b : Int) : List Gp := List.replicate many (f, b, 1)
section
variable {w many : Nat} {hs : List Int} {f b : Int} (S : Sing w many hs f b)
include S
theorem free_nodup : (freeL w hs).Nodup := List.nodup_range.filter _
theorem free_lt : ∀ r ∈ freeL w hs, r < w := fun r h => List.mem_range.mp (List.mem_filter.mp h).1
theorem free_up : (freeL w hs).Pairwise (· < ·) := List.pairwise_lt_range.filter _
theorem free_len : (freeL w hs).length ≤ 6 := by
  have := List.length_filter_le (fun r => decide (hs.getD r 0 = 0)) (List.range w)
  have := S.w6
  unfold freeL
  simp at *
  omega
theorem free_mem {r : Nat} : r ∈ freeL w hs ↔ r < w ∧ hs.getD r 0 = 0 := by simp [freeL]
theorem sg_ok : ∀ g ∈ sg many f b, OkG g := fun g h => by
  have := List.eq_of_mem_replicate h
  subst this
  have := S.b3
  exact ⟨S.f0, S.fb, by dsimp only; omega, by dsimp only; omega, by dsimp only; omega⟩
theorem sg_len : (sg many f b).length = many := by simp [sg]
theorem sg_at {k : Nat} (h : k < many) : at0 (sg many f b) k = (f, b, 1) := by
  unfold at0 sg
  rw [List.getD_eq_getElem?_getD, List.getElem?_replicate, if_pos h]
  rfl
theorem sg_tg {k : Nat} (h : k < many) : at0 (gts (sg many f b)) k = (f, b, 1) := by
  have hk : k < (sg many f b).length := by rw [sg_len S]; exact h
  rw [gts_at hk]
  have := turnAt_lt hk
  rw [sg_len S] at this
  exact sg_at S this
theorem held_row : hs = rowOf w (freeL w hs) b [] := by
  refine List.ext_getElem? fun r => ?_
  by_cases h : r < w
  · have h1 : hs[r]? = some (hs.getD r 0) := by
      rw [List.getD_eq_getElem?_getD, List.getElem?_eq_getElem (by rw [S.len]; exact h)]
      rfl
    rw [h1]
    unfold rowOf
    rw [List.getElem?_map, List.getElem?_range h]
    have hm : hs.getD r 0 ∈ hs := List.mem_of_getElem? h1
    have := S.all _ hm
    simp only [Option.map_some, List.not_mem_nil, if_false, free_mem S, h, true_and]
    by_cases q : hs.getD r 0 = 0
    · rw [if_pos q, q]
    · rw [if_neg q]
      rcases this with h | h
      · exact (q h).elim
      · rw [h]
  · rw [List.getElem?_eq_none (by rw [S.len]; omega), List.getElem?_eq_none (by rw [row_len]; omega)]
theorem sg_lvl {k : Nat} (h : k + 1 ≤ many) : lvl [hs] (gts (sg many f b)) (k + 1) = dueL w (freeL w hs) b (k + 1) := by
  have := lvl_due (w := w) (free := freeL w hs) (f := f) (b := b) S.f0 S.fb (by have := S.f3; omega) (free_nodup S) (free_lt S) (G := gts (sg many f b)) (many := many) (fun k hk => sg_tg S hk) h
  rw [← held_row S] at this
  exact this
theorem sg_lvl400 {k : Nat} (h : k ≤ many) : (lvl [hs] (gts (sg many f b)) k).length ≤ 400 := by
  cases k with
  | zero => simp [lvl]
  | succ k =>
    rw [sg_lvl S h]
    have := due_len (w := w) (n := k + 1) (b := b) (free_len S)
    omega
theorem sg_over : over 0 [hs] (gts (sg many f b)) = none := over_none fun k hk => sg_lvl400 S (by rw [gts_len, sg_len S] at hk; exact hk)
/-- places that are free and differ -/
theorem free_laid {ps : List Nat} (h1 : ps.length = many) (h2 : ∀ p ∈ ps, p ∈ freeL w hs) (h3 : ps.Nodup) : m_is_laid [.im (eIs hs), .im (.list ((sg many f b).map encG)), .im (eNs ps)] = some (.im (.bool true), [.un, .un, .un]) := by
  have hmem : ∀ k < many, ps.getD k 0 ∈ ps := fun k hk => by
    rw [List.getD_eq_getElem?_getD, List.getElem?_eq_getElem (by omega)]
    exact List.getElem_mem _
  refine is_laid_true (sg_ok S) (by rw [sg_len S]; have := S.m8; omega) (by rw [sg_len S, h1]) (fun k hk => ?_) fun k hk j hj => ?_
  · rw [sg_len S] at hk
    obtain ⟨a, c⟩ := (free_mem S).mp (h2 _ (hmem k hk))
    rw [sg_at S hk]
    have := S.len
    generalize ps.getD k 0 = p at a c
    refine ⟨by show p + 1 ≤ hs.length; omega, fun r r1 r2 => ?_⟩
    have r2 : r < p + 1 := r2
    have : r = p := by omega
    subst this
    rw [c]
    exact S.f0
  · rw [sg_len S] at hk
    rw [sg_at S hk, sg_at S (by omega)]
    intro _
    have hne : ps.getD j 0 ≠ ps.getD k 0 := by
      rw [List.getD_eq_getElem?_getD, List.getElem?_eq_getElem (by omega), List.getD_eq_getElem?_getD, List.getElem?_eq_getElem (by omega)]
      intro q
      have := (List.getElem_inj h3).mp q
      omega
    generalize ps.getD j 0 = p at hne
    generalize ps.getD k 0 = q at hne
    show p + 1 ≤ q ∨ q + 1 ≤ p
    omega
/-- where there is room for all -/
theorem told_some (hc : many ≤ (freeL w hs).length) : ∃ ps : List Nat, ps.length = many ∧ (∀ p ∈ ps, p ∈ freeL w hs) ∧ ps.Nodup ∧ m_laid [.im (eIs hs), .im (.list ((sg many f b).map encG))] = some (.im (.tuple [.str "laid", eNs ps]), [.un, .un]) := by
  by_cases h0 : many = 0
  · subst h0
    exact ⟨[], rfl, fun p h => (by cases h), List.nodup_nil, laid_nil.1⟩
  · have hlen := sg_len S
    have hne : sg many f b ≠ [] := fun q => by
      rw [q] at hlen
      exact h0 hlen.symm
    have hlst : lst [hs] (gts (sg many f b)) = (List.range many).map fun k => dueL w (freeL w hs) b (k + 1) := by
      rw [lst_some fun k hk => by
        rw [gts_len, hlen] at hk
        rw [sg_lvl S hk]
        exact due_ne (by omega), gts_len, hlen]
      refine List.map_congr_left fun k hk => sg_lvl S (by have := List.mem_range.mp hk; omega)
    obtain ⟨m, rfl⟩ : ∃ m, many = m + 1 := ⟨many - 1, by omega⟩
    rw [List.range_succ, List.map_append] at hlst
    obtain ⟨ps, wv, W, hl, _⟩ := laid_some (sg_ok S) (by rw [hlen]; have := S.m8; omega) S.w1 S.w6 S.len hne (sg_over S) hlst (due_ne hc) fun k hk => sg_lvl400 S (by rw [hlen] at hk; exact hk)
    have hpl := W.len
    rw [hlen] at hpl
    have hget : ∀ k < m + 1, ∀ x, ps[k]? = some x → x = ps.getD k 0 := fun k hk x hx => by
      rw [List.getD_eq_getElem?_getD, hx]
      rfl
    refine ⟨ps, hpl, fun p hp => ?_, ?_, hl⟩
    · obtain ⟨k, hk, e⟩ := List.mem_iff_getElem.mp hp
      have hf := way_fit0 (sg_ok S) W (k := k) (by rw [hlen]; omega)
      rw [sg_at S (by omega)] at hf
      have e2 : ps.getD k 0 = p := by
        rw [List.getD_eq_getElem?_getD, List.getElem?_eq_getElem hk, e]
        rfl
      rw [e2] at hf
      have h1 : p + 1 ≤ hs.length := hf.1
      have h2 : hs.getD p 0 ≤ f := hf.2 p (Nat.le_refl _) (by show p < p + 1; omega)
      refine (free_mem S).mpr ⟨by rw [← S.len]; omega, ?_⟩
      have hm : hs.getD p 0 ∈ hs := by
        rw [List.getD_eq_getElem?_getD, List.getElem?_eq_getElem (by omega)]
        exact List.getElem_mem _
      rcases S.all _ hm with h | h
      · exact h
      · have := S.f3
        omega
    · rw [List.Nodup, List.pairwise_iff_getElem]
      intro i j hi hj hij q
      have ha := way_apart0 (sg_ok S) W (k := j) (j := i) (by rw [hlen]; omega) (by rw [hlen]; omega) (by omega)
      rw [sg_at S (by omega), sg_at S (by omega)] at ha
      have e1 : ps.getD i 0 = ps[i] := by
        rw [List.getD_eq_getElem?_getD, List.getElem?_eq_getElem hi]
        rfl
      have e2 : ps.getD j 0 = ps[j] := by
        rw [List.getD_eq_getElem?_getD, List.getElem?_eq_getElem hj]
        rfl
      have := ha (by have := S.fb; show max f f < min b b; omega)
      rw [e1, e2, q] at this
      have h3 : ps[j] + 1 ≤ ps[j] ∨ ps[j] + 1 ≤ ps[j] := this
      omega
abbrev dues (w : Nat) (hs : List Int) (b : Int) (n : Nat) : List (List (List Int)) := (List.range n).map fun k => dueL w (freeL w hs) b (k + 1)
theorem sg_lst (hc : (freeL w hs).length < many) : lst [hs] (gts (sg many f b)) = dues w hs b ((freeL w hs).length + 1) := by
  have hlen := sg_len S
  rw [lst_none (k0 := (freeL w hs).length) (by rw [gts_len, hlen]; exact hc) (fun k hk => by
    rw [sg_lvl S (by omega)]
    exact due_ne (by omega)) (by
    rw [sg_lvl S (by omega)]
    exact due_nil (by omega))]
  exact List.map_congr_left fun k hk => sg_lvl S (by have := List.mem_range.mp hk; omega)
theorem told_none (hc : (freeL w hs).length < many) : m_laid [.im (eIs hs), .im (.list ((sg many f b).map encG))] = some (.im (.tuple [.str "none", .list ((dues w hs b ((freeL w hs).length + 1)).map encRs)]), [.un, .un]) := by
  have hlen := sg_len S
  have hne : sg many f b ≠ [] := fun q => by
    rw [q] at hlen
    simp at hlen
    omega
  have hl := sg_lst S hc
  have h2 : lst [hs] (gts (sg many f b)) = dues w hs b ((freeL w hs).length) ++ [[]] := by
    rw [hl]
    unfold dues
    rw [List.range_succ, List.map_append]
    congr 1
    simp [due_nil (w := w) (n := (freeL w hs).length + 1) (b := b) (Nat.lt_succ_self _)]
  rw [← hl]
  exact (laid_none (sg_ok S) (by rw [hlen]; have := S.m8; omega) S.w1 S.w6 S.len hne (sg_over S) h2).1
theorem dues_get {n k : Nat} (h : k < n) : (dues w hs b n).getD k [] = dueL w (freeL w hs) b (k + 1) := by
  unfold dues
  rw [List.getD_eq_getElem?_getD, List.getElem?_map, List.getElem?_range h]
  rfl
/-- is_none of lists that hold at least the rows -/
theorem sg_none {ts : List (List (List Int))} (t1 : 1 ≤ ts.length) (tm : ts.length ≤ many) (hw : ∀ T ∈ ts, Wd w T ∧ T.length ≤ 900) (hsub : ∀ k < ts.length, ∀ x ∈ dueL w (freeL w hs) b (k + 1), x ∈ ts.getD k []) (hsup : ∀ k, k + 1 < ts.length → ∀ x ∈ ts.getD k [], x ∈ dueL w (freeL w hs) b (k + 1)) :
    m_is_none [.im (eIs hs), .im (.list ((sg many f b).map encG)), .im (.list (ts.map encRs))] = some (.im (.bool (ts.getD (ts.length - 1) []).isEmpty), [.un, .un, .un]) := by
  have hlen := sg_len S
  refine none_eq (sg_ok S) (by rw [hlen]; have := S.m8; omega) S.w1 S.w6 S.len t1 (by rw [hlen]; exact tm) hw fun k hk x hx => ?_
  refine hsub k hk x ?_
  rw [← sg_lvl S (by omega), lvl]
  rw [mem_rowsB] at hx ⊢
  obtain ⟨row, hr, hp⟩ := hx
  refine ⟨row, ?_, hp⟩
  cases k with
  | zero => exact hr
  | succ k =>
    rw [sg_lvl S (by omega)]
    exact hsup k hk row hr
theorem dues_wd {n : Nat} : ∀ T ∈ dues w hs b n, Wd w T ∧ T.length ≤ 900 := fun T h => by
  obtain ⟨k, _, rfl⟩ := List.mem_map.mp h
  exact ⟨due_wd, by have := due_len (w := w) (n := k + 1) (b := b) (free_len S); omega⟩
theorem dues_none {n : Nat} (n1 : 1 ≤ n) (nm : n ≤ many) : m_is_none [.im (eIs hs), .im (.list ((sg many f b).map encG)), .im (.list ((dues w hs b n).map encRs))] = some (.im (.bool (dueL w (freeL w hs) b n).isEmpty), [.un, .un, .un]) := by
  have hl : (dues w hs b n).length = n := by simp [dues]
  have := sg_none S (ts := dues w hs b n) (by omega) (by omega) (dues_wd S) (fun k hk x hx => by rw [dues_get S (by omega)]; exact hx) (fun k hk x hx => by rw [dues_get S (by omega)] at hx; exact hx)
  rw [hl, dues_get S (by omega), show n - 1 + 1 = n by omega] at this
  exact this
theorem bent_none (c1 : 1 ≤ (freeL w hs).length) {n : Nat} (n1 : 1 ≤ n) (nm : n ≤ many) : m_is_none [.im (eIs hs), .im (.list ((sg many f b).map encG)), .im (.list (((dueL w (freeL w hs) b 1).tail :: (dues w hs b n).tail).map encRs))] = some (.im (.bool false), [.un, .un, .un]) := by
  have hlen := sg_len S
  have hl : (dues w hs b n).length = n := by simp [dues]
  have hd := due_ne (w := w) (n := 1) (b := b) c1
  obtain ⟨x, T, hx⟩ := List.exists_cons_of_ne_nil hd
  have h400 := due_len (w := w) (n := 1) (b := b) (free_len S)
  refine none_false (sg_ok S) (by rw [hlen]; have := S.m8; omega) S.w1 S.w6 S.len (by simp) (by rw [hlen]; simp; omega) (fun L hL => ?_) ⟨x, ?_, ?_⟩
  · rcases List.mem_cons.mp hL with rfl | hL
    · exact ⟨fun r hr => due_wd r (List.mem_of_mem_tail hr), by simp; omega⟩
    · exact dues_wd S L (List.mem_of_mem_tail hL)
  · have := sg_lvl S (k := 0) (by omega)
    rw [show lvl [hs] (gts (sg many f b)) (0 + 1) = rowsB [hs] (at0 (gts (sg many f b)) 0) from rfl] at this
    rw [this, hx]
    exact .head _
  · have hn : (dueL w (freeL w hs) b 1).Nodup := by
      rw [← sg_lvl S (k := 0) (by omega)]
      exact rowsB_nodup _ _
    rw [hx] at hn ⊢
    exact (List.nodup_cons.mp hn).1
end
end K05

set_option linter.all false
set_option maxRecDepth 100000
set_option maxHeartbeats 2000000
namespace K05
open PySem L2 DL
theorem take_nat {bag : List PyData} (h : BagOk bag) {many : Int} (h1 : 0 < many) (h2 : many ≤ 1000000) :
    ∃ (v : Nat) (bag' : List PyData), m__law_take [.ow (.lst bag), .im (.int many)] = some (.im (.int (v : Int)), [.ow (.lst bag'), .un]) ∧ (v : Int) < many ∧ BagOk bag' := by
  obtain ⟨v, bag', e, v0, v1, hb⟩ := take_eq h h1 h2
  refine ⟨v.toNat, bag', ?_, by omega, hb⟩
  rw [e, Int.toNat_of_nonneg v0]
def decI : PyData → Int
  | .int i => i
  | _ => 0
@[simp] theorem len_ns (l : List Nat) : fLenAny (eNs l) = some (.int (l.length : Int)) := by simp [eNs]
theorem eqD_ns (a b : List Nat) : eqD (eNs a) (eNs b) = some (decide (a = b)) := by
  unfold eNs
  rw [ns_ints, ns_ints, eqD_ints]
  congr 2
  refine propext ⟨fun h => ?_, fun h => by rw [h]⟩
  have := congrArg (List.map Int.toNat) h
  simpa [Function.comp_def] using this
theorem typed_of {α β : Type} {enc : β → PyData} {P : α → β → Prop} : ∀ (xs : List α) (ds : List PyData), ds.length = xs.length → (∀ (i : Nat) (x : α), xs[i]? = some x → ∃ d, ds[i]? = some d ∧ ∃ y, d = enc y ∧ P x y) →
    ∃ ys : List β, ds = ys.map enc ∧ ys.length = xs.length ∧ ∀ (i : Nat) (x : α), xs[i]? = some x → ∃ y, ys[i]? = some y ∧ P x y
  | [], ds, h, _ => ⟨[], by simpa using h, rfl, fun i x h => by simp at h⟩
  | x :: xs, [], h, _ => by simp at h
  | x :: xs, d :: ds, h, ha => by
    obtain ⟨ys, h1, h2, h3⟩ := typed_of xs ds (by simpa using h) fun i y hy => ha (i + 1) y (by simpa using hy)
    obtain ⟨d', e, y, rfl, hp⟩ := ha 0 x rfl
    simp at e
    subst e
    refine ⟨y :: ys, by rw [List.map_cons, ← h1], by simp [h2], fun i z hz => ?_⟩
    cases i with
    | zero =>
      simp at hz
      subst hz
      exact ⟨y, rfl, hp⟩
    | succ i => exact h3 i z (by simpa using hz)
theorem singles_eq {bag : List PyData} (hb0 : BagOk bag) : ∃ bag', m__law_singles_told [.ow (.lst bag)] = some (.im (.bool true), [.ow (.lst bag')]) ∧ BagOk bag' := by
  obtain ⟨v, bag1, e1, v1, hb1⟩ := take_nat hb0 (many := 6) (by omega) (by omega)
  simp only [m__law_singles_told, e_dFn, d__law_singles_told]
  simp [e1]
  obtain ⟨w, hw⟩ : ∃ w : Nat, w = 1 + v := ⟨_, rfl⟩
  rw [show (1 : Int) + (v : Int) = (w : Int) by omega]
  have bw := inRng_nat (show w ≤ 1000000 by omega)
  have tw : ((w : Int)).toNat = w := by omega
  simp [bw, rng_eq]
  obtain ⟨ds, bag2, e2, hb2, l2, g2⟩ := draws (g := dName 14) (e := dIm (dCall m__law_some [] (dConsR (dAt 0) (dConsR (dLst (dCons (dC (.int 0)) (dCons (dC (.int 0)) (dCons (dC (.int 400)) dNil)))) dNilR)))) (vs := [14]) (enc := fun k : Nat => PyData.int (k : Int))
    (fun bag => [.ow (.lst bag), .im (.int (w : Int)), .un, .un, .un, .un, .un, .un, .un, .un, .un, .un, .un, .un, .un, .un]) (fun _ d => d = .int 0 ∨ d = .int 400) (List.range w) bag1 [] hb1 (by simp; omega) (fun bag hb x _ => by
      obtain ⟨v, bag', e, hv, hb'⟩ := some_eq hb (l := [.int 0, .int 0, .int 400]) (by simp) (by simp)
      refine ⟨_, _, v, bag', rfl, by simp [e]; rfl, by simp, hb', ?_⟩
      simpa using hv)
  rw [e2]
  obtain ⟨hs, rfl, hs1, hs2⟩ : ∃ hs : List Int, ds = hs.map .int ∧ hs.length = w ∧ ∀ x ∈ hs, x = 0 ∨ x = 400 := by
    have hall : ∀ d ∈ ds, d = .int 0 ∨ d = .int 400 := fun d hd => by
      obtain ⟨i, hi, e⟩ := List.mem_iff_getElem.mp hd
      have hiw : (List.range w)[i]? = some i := List.getElem?_range (by rw [l2] at hi; simpa using hi)
      obtain ⟨d', h1, h2⟩ := g2 i i hiw
      rw [List.getElem?_eq_getElem hi, e] at h1
      cases h1
      exact h2
    refine ⟨ds.map decI, ?_, by simpa using l2, ?_⟩
    · rw [List.map_map]
      have : ds.map (PyData.int ∘ decI) = ds.map id := List.map_congr_left fun d hd => by
        rcases hall d hd with rfl | rfl <;> rfl
      rw [this, List.map_id]
    · intro x hx
      obtain ⟨d, hd, rfl⟩ := List.mem_map.mp hx
      rcases hall d hd with rfl | rfl
      · exact .inl rfl
      · exact .inr rfl
  clear e2 g2
  have eh : ∀ r : Nat, r < w → atI (hs.map PyData.int) (r : Int) = some (.int (hs.getD r 0)) := fun r hr => by rw [atI_nat', int_get (by omega)]
  have hfree := lc_typed (g := dName 14) (t := dTest (dOp fEq (dOpN fIxAny 2 (dVw 14)) (dC (.int 0)))) (e := dVar 14) (vs := [14]) (ρ := [.ow (.lst bag2), .im (.int (w : Int)), .im (.list (hs.map .int)), .un, .un, .un, .un, .un, .un, .un, .un, .un, .un, .un, .un, .un]) (enc := fun k : Nat => PyData.int (k : Int)) (fun r => decide (hs.getD r 0 = 0)) (fun k : Nat => PyData.int (k : Int)) (List.range w) [] (by simp; omega) (fun r hr => ⟨_, rfl, by
      have := eh r (List.mem_range.mp hr)
      generalize hs.getD r 0 = x at this ⊢
      simp [this], fun _ => by simp, by simp⟩)
  simp [bw, rng_eq, hfree]
  rw [show (List.filter (fun r => decide (hs[r]?.getD 0 = 0)) (List.range w)) = freeL w hs by simp [freeL]]
  obtain ⟨f, bag3, e3, f1, hb3⟩ := take_nat hb2 (many := 300) (by omega) (by omega)
  obtain ⟨many, bag4, e4, m1, hb4⟩ := take_nat hb3 (many := 9) (by omega) (by omega)
  obtain ⟨bd, bag5, e5, b1, hb5⟩ := take_nat hb4 (many := 3) (by omega) (by omega)
  obtain ⟨b, hb⟩ : ∃ b : Int, b = (f : Int) + 1 + (bd : Int) := ⟨_, rfl⟩
  have S : Sing w many hs f b := ⟨by omega, by omega, hs1, hs2, by omega, by omega, by omega, by omega, by omega⟩
  have hrep := rep_eq (.tuple [.int (f : Int), .int b, .int 1]) (show many ≤ 1000000 by omega)
  rw [show List.replicate many (PyData.tuple [.int (f : Int), .int b, .int 1]) = (sg many f b).map encG by simp [sg, encG]] at hrep
  have hfl := free_len S
  have hll : (List.map (fun k : Nat => PyData.int (k : Int)) (freeL w hs)).length = (freeL w hs).length := by simp
  have eids : PyData.list (List.map PyData.int hs) = eIs hs := rfl
  have eidf : PyData.list (List.map (fun k : Nat => PyData.int (k : Int)) (freeL w hs)) = eNs (freeL w hs) := rfl
  simp [e3, e4, e5, ← hb, hrep]
  by_cases hc : many ≤ (freeL w hs).length
  · obtain ⟨ps, p1, p2, p3, htold⟩ := told_some S hc
    have hlaid := free_laid S p1 p2 p3
    rw [← eids] at htold hlaid
    have hsort := sortI_ns (ps := ps) (l := (freeL w hs).filter fun r => decide (r ∈ ps)) ((free_up S).filter _) p3 (fun x => by
      rw [List.mem_filter, decide_eq_true_iff]
      exact ⟨fun h => h.2, fun h => ⟨p2 x h, h⟩⟩)
    have hcomp := lc_typed (g := dName 14) (t := dTest (dOpN fIn 14 (dOpN fIxAny 8 (dC (.int 1))))) (e := dVar 14) (vs := [14]) (ρ := [.ow (.lst bag5), .im (.int (w : Int)), .im (.list (hs.map .int)), .im (.list ((freeL w hs).map fun (k : Nat) => .int (k : Int))), .im (.int (f : Int)), .im (.int (many : Int)), .im (.int b), .im (.list ((sg many f b).map encG)), .im (.tuple [.str "laid", eNs ps]), .un, .un, .un, .un, .un, .un, .un]) (enc := fun k : Nat => PyData.int (k : Int)) (fun r => decide (r ∈ ps)) (fun k : Nat => PyData.int (k : Int)) (freeL w hs) [] (by simp; omega) (fun r hr => ⟨_, rfl, by
        simp [inD_ns], fun _ => by simp, by simp⟩)
    obtain ⟨l', bag6, e6, hp6, hb6⟩ := mixed_eq hb5 (l := (freeL w hs).map fun (k : Nat) => .int (k : Int)) (by simp; omega)
    obtain ⟨fr, rfl, hfr⟩ := perm_dec decN_enc hp6
    have hown := free_laid S (ps := fr.take many) (by rw [List.length_take, hfr.length_eq]; omega) (fun p hp => hfr.mem_iff.mp (List.mem_of_mem_take hp)) ((hfr.nodup_iff.mpr (free_nodup S)).sublist (List.take_sublist _ _))
    rw [← eids] at hown
    have hll := law_lists_eq (wide := w) (many := many) (free := freeL w hs) (behind := b) (by omega) (by omega) hfl (by omega)
    rw [← eidf] at hll
    have hee : eqD (eNs ((freeL w hs).filter fun r => decide (r ∈ ps))) (.list (((freeL w hs).filter fun r => decide (r ∈ ps)).map fun (k : Nat) => .int (k : Int))) = some true := by
      have := eqD_ns ((freeL w hs).filter fun r => decide (r ∈ ps)) ((freeL w hs).filter fun r => decide (r ∈ ps))
      simpa [eNs] using this
    have hct := cut_take (fr.map fun (k : Nat) => .int (k : Int)) many
    rw [show eNs (fr.take many) = .list ((fr.take many).map fun (k : Nat) => .int (k : Int)) from rfl, List.map_take] at hown
    by_cases h0 : many = 0
    · have h0' := eq_true h0
      refine ⟨bag6, ?_, hb6⟩
      simp only [eids] at *
      simp [htold, hc, p1, hsort, hcomp, hee, hlaid, alike_b, e6, hct, hown, hll, h0', maskO]
    · have hn := dues_none S (n := many) (by omega) (Nat.le_refl _)
      rw [show (dueL w (freeL w hs) b many).isEmpty = false by simpa using due_ne hc, ← eids] at hn
      simp only [dues, List.map_map, Function.comp_def] at hn
      refine ⟨bag6, ?_, hb6⟩
      simp [htold, hc, p1, hsort, hcomp, hee, hlaid, alike_b, e6, hct, hown, hll, hn, h0, maskO]
  · have hc2 : (freeL w hs).length < many := by omega
    have htold := told_none S hc2
    have hll := law_lists_eq (wide := w) (many := (freeL w hs).length + 1) (free := freeL w hs) (behind := b) (by omega) (by omega) hfl (by omega)
    rw [← eidf, show (((freeL w hs).length + 1 : Nat) : Int) = ((freeL w hs).length : Int) + 1 by omega] at hll
    have hts : dues w hs b ((freeL w hs).length + 1) = dues w hs b (freeL w hs).length ++ [[]] := by
      unfold dues
      rw [List.range_succ, List.map_append]
      rw [List.map_singleton, due_nil (w := w) (n := (freeL w hs).length + 1) (b := b) (Nat.lt_succ_self _)]
    have hnone := dues_none S (n := (freeL w hs).length + 1) (by omega) (by omega)
    rw [due_nil (w := w) (n := (freeL w hs).length + 1) (b := b) (Nat.lt_succ_self _), ← eids] at hnone
    have hself := eqD_none (dues w hs b ((freeL w hs).length + 1))
    have hcut : cutD ((dues w hs b ((freeL w hs).length + 1)).map encRs) none (some (-1)) = (dues w hs b (freeL w hs).length).map encRs := by
      rw [hts, List.map_append, List.map_singleton, cut_init]
    have hlen : ((dues w hs b ((freeL w hs).length + 1)).map encRs).length = (freeL w hs).length + 1 := by simp
    have hat : ∀ c1 : 1 ≤ (freeL w hs).length, atI ((dues w hs b ((freeL w hs).length + 1)).map encRs) 0 = some (encRs (dueL w (freeL w hs) b 1)) := fun c1 => by
      have := atI_nat' ((dues w hs b ((freeL w hs).length + 1)).map encRs) 0
      rw [t_get (by simp), dues_get S (by omega)] at this
      exact this
    have hdrop : cutD ((dues w hs b ((freeL w hs).length + 1)).map encRs) (some 1) none = (dues w hs b ((freeL w hs).length + 1)).tail.map encRs := by
      have := cut_drop ((dues w hs b ((freeL w hs).length + 1)).map encRs) 1
      rw [List.drop_one, ← List.map_tail] at this
      exact this
    have hbent := fun c1 : 1 ≤ (freeL w hs).length => bent_none S c1 (n := (freeL w hs).length + 1) (by omega) (by omega)
    have hll2 : PyData.list ((List.range ((freeL w hs).length + 1)).map fun k => encRs (dueL w (freeL w hs) b (k + 1))) = .list ((dues w hs b ((freeL w hs).length + 1)).map encRs) := by simp [dues, Function.comp_def]
    rw [hll2] at hll
    rw [← eids] at htold hbent
    generalize (dues w hs b ((freeL w hs).length + 1)).map encRs = Ts at htold hll hnone hself hcut hlen hat hdrop
    have hTt0 : (dues w hs b ((freeL w hs).length + 1)).tail.length ≤ 6 := by
      simp
      exact hfl
    generalize (dues w hs b ((freeL w hs).length + 1)).tail = Tt at hdrop hbent hTt0
    have hrows : ∀ k < (freeL w hs).length, (dues w hs b (freeL w hs).length)[k]? = some (dueL w (freeL w hs) b (k + 1)) := fun k hk => by
      unfold dues
      rw [List.getElem?_map, List.getElem?_range hk]
      rfl
    have hIl : (dues w hs b (freeL w hs).length).length = (freeL w hs).length := by simp
    have hI64 : ∀ x ∈ dues w hs b (freeL w hs).length, x.length ≤ 64 := fun x hx => by
      obtain ⟨k, _, rfl⟩ := List.mem_map.mp hx
      exact due_len hfl
    clear hts
    generalize dues w hs b (freeL w hs).length = I at hcut hrows hIl hI64
    obtain ⟨ds, bag6, e6, hb6, l6, g6⟩ := draws (g := dName 15) (e := dOp fAddAny (dIm (dCall m__law_mixed [] (dConsR (dAt 0) (dConsR (dEx (dVar 15)) dNilR)))) (dSlN fSlAny 15 dNoPart (dPart (dC (PyData.int 1))))) (vs := [15]) (enc := encRs)
      (fun bag => [.ow (.lst bag), .im (.int (w : Int)), .im (.list (hs.map .int)), .im (.list ((freeL w hs).map fun (k : Nat) => .int (k : Int))), .im (.int (f : Int)), .im (.int (many : Int)), .im (.int b), .im (.list ((sg many f b).map encG)), .im (.tuple [.str "none", .list Ts]), .un, .un, .im (.list Ts), .un, .un, .un, .un]) (fun T d => ∃ T2 : List (List Int), d = encRs T2 ∧ (∀ r, r ∈ T2 ↔ r ∈ T) ∧ T2.length ≤ 130) I bag5 [] hb5 (by simp; omega) (fun bag hb x hx => by
        have hxl : x.length ≤ 64 := hI64 x hx
        obtain ⟨l', bag', e, hp, hb'⟩ := mixed_eq hb (l := x.map unTup) (by simp; omega)
        obtain ⟨x2, rfl, hp2⟩ := perm_dec decR_enc hp
        have hct := cut_take (x.map unTup) 1
        simp only [Int.natCast_one] at hct
        have hx2 := hp2.length_eq
        have hz : (x2.map unTup).length + ((x.map unTup).take 1).length ≤ sizeLine := le_line (by simp; omega)
        refine ⟨_, _, encRs (x2 ++ x.take 1), bag', rfl, by
          simp [encRs, e, hct, hz]
          simp at hz
          simp [hz]
          rfl, by simp, hb', x2 ++ x.take 1, rfl, fun r => ?_, by simp; omega⟩
        rw [List.mem_append, hp2.mem_iff]
        exact ⟨fun h => h.elim id List.mem_of_mem_take, .inl⟩)
    obtain ⟨Tw, rfl, hTl, hT⟩ := typed_of _ _ l6 g6
    have hTl' : Tw.length = (freeL w hs).length := by rw [hTl, hIl]
    have hTk : ∀ k < (freeL w hs).length, (∀ r, r ∈ Tw.getD k [] ↔ r ∈ dueL w (freeL w hs) b (k + 1)) ∧ (Tw.getD k []).length ≤ 130 := fun k hk => by
      obtain ⟨y, h1, h2⟩ := hT k _ (hrows k hk)
      rw [List.getD_eq_getElem?_getD, h1]
      exact h2
    have hwl : ∀ k < (freeL w hs).length, (Tw ++ [[]]).getD k [] = Tw.getD k [] := fun k hk => by
      rw [List.getD_eq_getElem?_getD, List.getElem?_append_left (by omega), ← List.getD_eq_getElem?_getD]
    have hwide := sg_none S (ts := Tw ++ [[]]) (by simp) (by simp; omega) (fun T hT2 => by
      rcases List.mem_append.mp hT2 with h | h
      · obtain ⟨k, hk, e⟩ := List.mem_iff_getElem.mp h
        obtain ⟨a, c⟩ := hTk k (by omega)
        rw [List.getD_eq_getElem?_getD, List.getElem?_eq_getElem hk, e] at a c
        exact ⟨fun r hr => due_wd r ((a r).mp hr), Nat.le_trans c (by omega)⟩
      · rw [List.mem_singleton] at h
        subst h
        exact ⟨fun r hr => (by cases hr), by simp⟩) (fun k hk x hx => by
      by_cases h : k < (freeL w hs).length
      · rw [hwl k h]
        exact ((hTk k h).1 x).mpr hx
      · rw [due_nil (by omega)] at hx
        cases hx) (fun k hk x hx => by
      have h : k < (freeL w hs).length := by simp at hk; omega
      rw [hwl k h] at hx
      exact ((hTk k h).1 x).mp hx)
    have hlast : (Tw ++ [[]]).getD ((Tw ++ [[]]).length - 1) [] = [] := by simp
    rw [hlast, List.map_append, ← eids] at hwide
    have hwz : Tw.length + 1 ≤ sizeLine := le_line (by omega)
    have e00 : encRs [] = .list [] := rfl
    simp only [List.map_singleton, e00] at hwide
    refine ⟨bag6, ?_, hb6⟩
    by_cases c1 : 1 ≤ (freeL w hs).length
    · have hat1 := hat c1
      have hbent1 := hbent c1
      have hd1 := due_ne (w := w) (n := 1) (b := b) c1
      have hee := eqD_rows (dueL w (freeL w hs) b 1)
      have hee2 := eqD_rr (dueL w (freeL w hs) b 1).tail (dueL w (freeL w hs) b 1)
      have hdd := cut_drop ((dueL w (freeL w hs) b 1).map unTup) 1
      rw [List.drop_one, ← List.map_tail] at hdd
      simp only [Int.natCast_one] at hdd
      have hne : ¬ (dueL w (freeL w hs) b 1).tail = dueL w (freeL w hs) b 1 := fun q => by
        have := congrArg List.length q
        have := List.length_pos_iff.mpr hd1
        simp at *
        omega
      have c1' : (1 : Int) < ((freeL w hs).length : Int) + 1 := by omega
      have hTt : 1 + Tt.length ≤ sizeLine := le_line (by omega)
      generalize dueL w (freeL w hs) b 1 = D1 at hat1 hbent1 hd1 hee hee2 hdd hne
      simp [encRs] at hat1 hbent1 hee hee2 hdd
      simp [htold, hc, hll, hself, hnone, alike_b, hcut, e6, hwz, hwide, hlen, c1', hat1, hee, hd1, hdd, hdrop, hTt, hbent1, hee2, hne, maskO]
    · have c0 : (freeL w hs).length = 0 := by omega
      have c1' : ¬ (1 : Int) < ((freeL w hs).length : Int) + 1 := by omega
      simp [htold, hc, hll, hself, hnone, alike_b, hcut, e6, hwz, hwide, hlen, c1', maskO]
end K05

set_option linter.all false
set_option maxRecDepth 100000
set_option maxHeartbeats 1000000
namespace K05
open PySem L2 DL
def ff (w : Nat) : Nat → Nat
  | 0 => 1
  | n + 1 => ff w n * (w - n)
theorem putR_all {rows : List (List Int)} : ∀ {acc : List (List Int)}, (acc ++ rows).Nodup → rows.foldl putR acc = acc ++ rows := by
  induction rows with
  | nil => simp
  | cons r rows ih =>
    intro acc h
    have hr : r ∉ acc := fun q => (List.nodup_append.mp h).2.2 r q r (.head _) rfl
    rw [List.foldl_cons, show putR acc r = acc ++ [r] from if_neg hr, ih (by simpa using h)]
    simp
theorem len_flat {α β : Type} {f : α → List β} {c : Nat} : ∀ {l : List α}, (∀ x ∈ l, (f x).length = c) → (l.flatMap f).length = l.length * c
  | [], _ => by simp
  | x :: l, h => by
    rw [List.flatMap_cons, List.length_append, h x (.head _), len_flat fun y hy => h y (.tail _ hy), List.length_cons, Nat.succ_mul, Nat.add_comm]
def Zs (w : Nat) (x : List Int) : List Nat := (List.range w).filter fun r => decide (x.getD r 0 = 0)
/-- rows behind n groups of one room each, where each has its own night behind -/
structure Ap (w n : Nat) (bs : List Int) (x : List Int) : Prop where
  len : x.length = w
  ent : ∀ r < w, x.getD r 0 = 0 ∨ (5 < x.getD r 0 ∧ x.getD r 0 ∈ bs)
  zs : (Zs w x).length + n = w
section
variable {w n : Nat} {bs : List Int} {b : Int} {x : List Int}
theorem ap_fits (h : Ap w n bs x) {p : Nat} (hp : p < w) : Fits x (5, b, 1) p ↔ x.getD p 0 = 0 := by
  unfold Fits
  rw [h.len]
  constructor
  · rintro ⟨_, h2⟩
    have : x.getD p 0 ≤ 5 := h2 p (Nat.le_refl _) (by show p < p + 1; omega)
    rcases h.ent p hp with q | q
    · exact q
    · omega
  · intro q
    refine ⟨by show p + 1 ≤ w; omega, fun r r1 r2 => ?_⟩
    have r2 : r < p + 1 := r2
    have : r = p := by omega
    subst this
    rw [q]
    show (0 : Int) ≤ 5
    omega
theorem ap_cell (h : Ap w n bs x) {p r : Nat} (hr : r < w) : cell x (5, b, 1) p r = if r = p then b else x.getD r 0 := by
  unfold cell
  have hc : (p ≤ r ∧ r < p + ((5, b, 1) : Gp).2.2.toNat) ↔ r = p := by
    show (p ≤ r ∧ r < p + 1) ↔ r = p
    omega
  by_cases q : r = p
  · rw [if_pos (hc.mpr q), if_pos q]
  · rw [if_neg fun h => q (hc.mp h), if_neg q]
    rcases h.ent r hr with h1 | h1
    · rw [h1]
      rfl
    · rw [if_neg (by dsimp only; omega)]
theorem ap_step (h : Ap w n bs x) {p : Nat} (hp : p < w) (b5 : 5 < b) (h0 : x.getD p 0 = 0) : Ap w (n + 1) (b :: bs) (behindL x (5, b, 1) p) := by
  have hg : ∀ r < w, (behindL x (5, b, 1) p).getD r 0 = if r = p then b else x.getD r 0 := fun r hr => by
    rw [behind_get (by rw [h.len]; exact hr), ap_cell h hr]
  refine ⟨by rw [behind_len, h.len], fun r hr => ?_, ?_⟩
  · rw [hg r hr]
    by_cases q : r = p
    · rw [if_pos q]
      exact .inr ⟨b5, .head _⟩
    · rw [if_neg q]
      rcases h.ent r hr with h1 | h1
      · exact .inl h1
      · exact .inr ⟨h1.1, .tail _ h1.2⟩
  · have hperm : (Zs w x).Perm (p :: Zs w (behindL x (5, b, 1) p)) := by
      refine (List.perm_ext_iff_of_nodup (List.nodup_range.filter _) (List.nodup_cons.mpr ⟨?_, List.nodup_range.filter _⟩)).mpr fun r => ?_
      · intro q
        have := (List.mem_filter.mp q).2
        rw [decide_eq_true_iff, hg p hp, if_pos rfl] at this
        omega
      · rw [List.mem_cons]
        rw [List.mem_filter, List.mem_filter, decide_eq_true_iff, decide_eq_true_iff, List.mem_range]
        constructor
        · rintro ⟨a, c⟩
          by_cases q : r = p
          · exact .inl q
          · exact .inr ⟨a, by rw [hg r a, if_neg q]; exact c⟩
        · rintro (q | ⟨a, c⟩)
          · subst q
            exact ⟨hp, h0⟩
          · refine ⟨a, ?_⟩
            rw [hg r a] at c
            split at c
            · omega
            · exact c
    have := hperm.length_eq
    have := h.zs
    simp at *
    omega
/-- a row tells where it came from -/
theorem ap_inj {y : List Int} {p q : Nat} (hx : Ap w n bs x) (hy : Ap w n bs y) (hb : b ∉ bs) (b5 : 5 < b) (hp : p < w) (hq : q < w) (x0 : x.getD p 0 = 0) (y0 : y.getD q 0 = 0) (e : behindL x (5, b, 1) p = behindL y (5, b, 1) q) : x = y ∧ p = q := by
  have hg : ∀ r < w, (if r = p then b else x.getD r 0) = if r = q then b else y.getD r 0 := fun r hr => by
    rw [← ap_cell hx hr, ← ap_cell hy hr, ← behind_get (by rw [hx.len]; exact hr), ← behind_get (by rw [hy.len]; exact hr), e]
  have hpq : p = q := by
    apply Classical.byContradiction
    intro h
    have := hg p hp
    rw [if_pos rfl, if_neg h] at this
    rcases hy.ent p hp with h1 | h1
    · omega
    · rw [← this] at h1
      exact hb h1.2
  subst hpq
  refine ⟨List.ext_getElem? fun r => ?_, rfl⟩
  by_cases hr : r < w
  · have h1 := hg r hr
    have e1 : x[r]? = some (x.getD r 0) := by
      rw [List.getD_eq_getElem?_getD, List.getElem?_eq_getElem (by rw [hx.len]; exact hr)]
      rfl
    have e2 : y[r]? = some (y.getD r 0) := by
      rw [List.getD_eq_getElem?_getD, List.getElem?_eq_getElem (by rw [hy.len]; exact hr)]
      rfl
    rw [e1, e2]
    by_cases h : r = p
    · subst h
      rw [x0, y0]
    · rw [if_neg h, if_neg h] at h1
      rw [h1]
  · rw [List.getElem?_eq_none (by rw [hx.len]; omega), List.getElem?_eq_none (by rw [hy.len]; omega)]
theorem ap_rowB (h : Ap w n bs x) {p : Nat} (hp : p < w) : rowB x (5, b, 1) p = if x.getD p 0 = 0 then some (behindL x (5, b, 1) p) else none := by
  by_cases q : x.getD p 0 = 0
  · rw [if_pos q]
    exact rowB_some.mpr ⟨(ap_fits h hp).mpr q, rfl⟩
  · rw [if_neg q]
    unfold rowB
    rw [if_neg fun h' => q ((ap_fits h hp).mp h')]
theorem ap_rowsOf (h : Ap w n bs x) : rowsOf x (5, b, 1) = (Zs w x).map fun p => behindL x (5, b, 1) p := by
  unfold rowsOf Zs
  rw [h.len]
  have : ∀ l : List Nat, (∀ p ∈ l, p < w) → l.filterMap (rowB x (5, b, 1)) = (l.filter fun r => decide (x.getD r 0 = 0)).map fun p => behindL x (5, b, 1) p := by
    intro l
    induction l with
    | nil => exact fun _ => rfl
    | cons p l ih =>
      intro hl
      rw [List.filterMap_cons, ap_rowB h (hl p (.head _)), List.filter_cons, ih fun q hq => hl q (.tail _ hq)]
      by_cases q : x.getD p 0 = 0
      · rw [if_pos q, if_pos (by simpa using q)]
        rfl
      · rw [if_neg q, if_neg (by simpa using q)]
  exact this _ fun p hp => List.mem_range.mp hp
theorem ap_rows {R : List (List Int)} (hR : ∀ x ∈ R, Ap w n bs x) (hn : R.Nodup) (hb : b ∉ bs) (b5 : 5 < b) : (rowsB R (5, b, 1)).length = R.length * (w - n) ∧ ∀ x ∈ rowsB R (5, b, 1), Ap w (n + 1) (b :: bs) x := by
  have hz : ∀ x ∈ R, ∀ p ∈ Zs w x, p < w ∧ x.getD p 0 = 0 := fun x _ p hp => by
    have := List.mem_filter.mp hp
    exact ⟨List.mem_range.mp this.1, by simpa using this.2⟩
  have hnd : (rowsG R (5, b, 1)).Nodup := by
    unfold rowsG
    rw [List.Nodup, List.pairwise_flatMap]
    refine ⟨fun x hx => ?_, ?_⟩
    · rw [ap_rowsOf (hR x hx), List.pairwise_map]
      have hz' : (Zs w x).Nodup := List.nodup_range.filter _
      have h2 := List.pairwise_iff_getElem.mp hz'
      rw [List.pairwise_iff_getElem]
      intro i j hi hj hij e
      have a := hz x hx _ (List.getElem_mem hi)
      have c := hz x hx _ (List.getElem_mem hj)
      exact h2 i j hi hj hij (ap_inj (hR x hx) (hR x hx) hb b5 a.1 c.1 a.2 c.2 e).2
    · have h2 := List.pairwise_iff_getElem.mp hn
      rw [List.pairwise_iff_getElem]
      intro i j hi hj hij u hu v hv e
      have hx := List.getElem_mem hi
      have hy := List.getElem_mem hj
      rw [ap_rowsOf (hR _ hx), List.mem_map] at hu
      rw [ap_rowsOf (hR _ hy), List.mem_map] at hv
      obtain ⟨p, hp, rfl⟩ := hu
      obtain ⟨q, hq, rfl⟩ := hv
      have a := hz _ hx p hp
      have c := hz _ hy q hq
      exact h2 i j hi hj hij (ap_inj (hR _ hx) (hR _ hy) hb b5 a.1 c.1 a.2 c.2 e).1
  constructor
  · unfold rowsB keysB
    rw [(tsort_perm _).length_eq, putR_all (by simpa using hnd), List.nil_append]
    unfold rowsG
    refine len_flat fun x hx => ?_
    rw [ap_rowsOf (hR x hx), List.length_map]
    have := (hR x hx).zs
    omega
  · intro x hx
    obtain ⟨row, hr, p, hp, e⟩ := mem_rowsB.mp hx
    have ha := hR row hr
    rw [ha.len] at hp
    rw [ap_rowB ha hp] at e
    split at e
    · next h0 =>
      cases e
      exact ap_step ha hp b5 h0
    · cases e
end
def ag (many : Nat) : List Gp := (List.range many).map fun (k : Nat) => (5, 6 + (k : Int), 1)
section
variable {w many : Nat} (w1 : 1 ≤ w) (w6 : w ≤ 6) (m7 : many ≤ 7)
theorem ag_len : (ag many).length = many := by simp [ag]
include m7 in
theorem ag_ok : ∀ g ∈ ag many, OkG g := fun g h => by
  obtain ⟨k, hk, rfl⟩ := List.mem_map.mp h
  have := List.mem_range.mp hk
  exact ⟨by dsimp only; omega, by dsimp only; omega, by dsimp only; omega, by dsimp only; omega, by dsimp only; omega⟩
theorem ag_tg {k : Nat} (h : k < many) : ∃ b, at0 (gts (ag many)) k = (5, b, 1) ∧ 5 < b := by
  have hm : at0 (gts (ag many)) k ∈ ag many := (gts_perm _).mem_iff.mp (at0_mem (by rw [gts_len, ag_len]; exact h))
  obtain ⟨j, _, e⟩ := List.mem_map.mp hm
  exact ⟨6 + (j : Int), e.symm, by omega⟩
theorem ag_b {j k : Nat} (hj : j < many) (hk : k < many) (h : (at0 (gts (ag many)) j).2.1 = (at0 (gts (ag many)) k).2.1) : j = k := by
  have hn : ((gts (ag many)).map fun g => g.2.1).Nodup := by
    have := (gts_perm (ag many)).map fun g => g.2.1
    rw [this.nodup_iff]
    unfold ag
    rw [List.map_map]
    exact List.pairwise_map.mpr (List.nodup_range.imp fun h q => h (by simp at q; omega))
  have e : ∀ j < many, ((gts (ag many)).map fun g => g.2.1)[j]? = some (at0 (gts (ag many)) j).2.1 := fun j hj => by
    rw [List.getElem?_map, at0_get (by rw [gts_len, ag_len]; exact hj)]
    rfl
  have l : ((gts (ag many)).map fun g => g.2.1).length = many := by rw [List.length_map, gts_len, ag_len]
  have e1 := e j hj
  have e2 := e k hk
  rw [List.getElem?_eq_getElem (by omega)] at e1 e2
  refine (List.getElem_inj (h₀ := by omega) (h₁ := by omega) hn).mp ?_
  have e1 := Option.some.inj e1
  have e2 := Option.some.inj e2
  rw [e1, e2, h]
def bsN (many : Nat) : Nat → List Int
  | 0 => []
  | n + 1 => (at0 (gts (ag many)) n).2.1 :: bsN many n
theorem bsN_mem {n : Nat} {b : Int} (h : b ∈ bsN many n) : ∃ j < n, b = (at0 (gts (ag many)) j).2.1 := by
  induction n with
  | zero => cases h
  | succ n ih =>
    rcases List.mem_cons.mp h with h | h
    · exact ⟨n, by omega, h⟩
    · obtain ⟨j, a, c⟩ := ih h
      exact ⟨j, by omega, c⟩
noncomputable abbrev alv (w many n : Nat) : List (List Int) := lvl [List.replicate w 0] (gts (ag many)) n
theorem ag_lvl : ∀ n, n ≤ many → n ≤ w → (alv w many n).length = ff w n ∧ (alv w many n).Nodup ∧ ∀ x ∈ alv w many n, Ap w n (bsN many n) x
  | 0, _, _ => by
    refine ⟨rfl, by simp [lvl], fun x hx => ?_⟩
    have hx : x = List.replicate w 0 := by simpa [lvl] using hx
    subst hx
    have hz : ∀ r < w, (List.replicate w (0 : Int)).getD r 0 = 0 := fun r hr => by
      rw [List.getD_eq_getElem?_getD, List.getElem?_replicate, if_pos hr]
      rfl
    refine ⟨by simp, fun r hr => .inl (hz r hr), ?_⟩
    unfold Zs
    rw [List.filter_eq_self.mpr fun r hr => by simpa using hz r (List.mem_range.mp hr)]
    simp
  | n + 1, h1, h2 => by
    obtain ⟨i1, i2, i3⟩ := ag_lvl n (by omega) (by omega)
    obtain ⟨b, hb, b5⟩ := ag_tg (many := many) (k := n) (by omega)
    have hnb : b ∉ bsN many n := fun q => by
      obtain ⟨j, a, c⟩ := bsN_mem q
      have := ag_b (many := many) (j := j) (k := n) (by omega) (by omega) (by rw [← c, hb])
      omega
    obtain ⟨r1, r2⟩ := ap_rows (b := b) i3 i2 hnb b5
    have e : alv w many (n + 1) = rowsB (alv w many n) (5, b, 1) := by
      show rowsB _ (at0 (gts (ag many)) n) = _
      rw [hb]
    refine ⟨by rw [e, r1, i1]; rfl, rowsB_nodup _ _, fun x hx => ?_⟩
    rw [e] at hx
    have := r2 x hx
    rwa [show bsN many (n + 1) = b :: bsN many n by rw [bsN, hb]]
theorem ag_nil (h : w < many) : alv w many (w + 1) = [] := by
  obtain ⟨i1, i2, i3⟩ := ag_lvl (w := w) (many := many) w (by omega) (Nat.le_refl _)
  obtain ⟨b, hb, b5⟩ := ag_tg (many := many) (k := w) h
  have e : alv w many (w + 1) = rowsB (alv w many w) (5, b, 1) := by
    show rowsB _ (at0 (gts (ag many)) w) = _
    rw [hb]
  have hnb : b ∉ bsN many w := fun q => by
    obtain ⟨j, a, c⟩ := bsN_mem q
    have := ag_b (many := many) (j := j) (k := w) (by omega) h (by rw [← c, hb])
    omega
  obtain ⟨r1, _⟩ := ap_rows (b := b) i3 i2 hnb b5
  rw [Nat.sub_self, Nat.mul_zero] at r1
  rw [e]
  exact List.length_eq_zero_iff.mp r1
theorem rowsB_nil (g : Gp) : rowsB [] g = [] := by
  cases h : rowsB [] g with
  | nil => rfl
  | cons x l =>
    have : x ∈ rowsB [] g := by rw [h]; exact .head _
    obtain ⟨_, h, _⟩ := mem_rowsB.mp this
    cases h
theorem ag_later (h : w < many) : ∀ n, w < n → alv w many n = []
  | 0, h0 => by omega
  | n + 1, h0 => by
    by_cases e : n = w
    · subst e
      exact ag_nil h
    · show rowsB (alv w many n) _ = []
      rw [ag_later h n (by omega), rowsB_nil]
theorem ff_pos : ∀ {w n : Nat}, n ≤ w → 0 < ff w n
  | w, 0, _ => Nat.one_pos
  | w, n + 1, h => Nat.mul_pos (ff_pos (by omega)) (by omega)
theorem ff_big : ∀ w < 7, ∀ n < 7, n ≤ w → ((400 < ff w n ↔ (w = 6 ∧ 5 ≤ n)) ∧ ff w n ≤ 720) := by decide
theorem ag_held : (List.replicate w (0 : Int)).length = w := by simp
include w6 in
theorem ag_400 (h : ¬ (w = 6 ∧ 5 ≤ many)) {n : Nat} (hn : n ≤ many) : (alv w many n).length ≤ 400 := by
  by_cases hw : n ≤ w
  · rw [(ag_lvl n hn hw).1]
    have := (ff_big w (by omega) n (by omega) hw).1
    omega
  · rw [ag_later (by omega) n (by omega)]
    simp
end
end K05

set_option linter.all false
set_option maxRecDepth 100000
set_option maxHeartbeats 2000000
namespace K05
open PySem L2 DL
def numD (w i : Nat) : PyData := if w = 6 ∧ 5 ≤ i then .int 5 else .none
theorem ff_nums : ∀ w < 7, ∀ n < 6, n < w → ((400 < ff w (n + 1)) ↔ (w = 6 ∧ 4 ≤ n)) := by decide
theorem apart_eq {bag : List PyData} (hb0 : BagOk bag) : ∃ bag', m__law_apart_told [.ow (.lst bag)] = some (.im (.bool true), [.ow (.lst bag')]) ∧ BagOk bag' := by
  obtain ⟨v, bag1, e1, v1, hb1⟩ := take_nat hb0 (many := 6) (by omega) (by omega)
  obtain ⟨u, bag2, e2, u1, hb2⟩ := take_nat hb1 (many := 7) (by omega) (by omega)
  refine ⟨bag2, ?_, hb2⟩
  obtain ⟨w, hw⟩ : ∃ w : Nat, w = 1 + v := ⟨_, rfl⟩
  obtain ⟨many, hm⟩ : ∃ w : Nat, w = 1 + u := ⟨_, rfl⟩
  have bm := inRng_nat (show many ≤ 1000000 by omega)
  have bw := inRng_nat (show w ≤ 1000000 by omega)
  simp only [m__law_apart_told, e_dFn, d__law_apart_told]
  simp [e1, e2]
  rw [show (1 : Int) + (v : Int) = (w : Int) by omega, show (1 : Int) + (u : Int) = (many : Int) by omega]
  have hcomp := lc_all (g := dName 6) (e := dTup (dCons (dC (.int 5)) (dCons (dOp fAddAny (dC (.int 6)) (dVw 6)) (dCons (dC (.int 1)) dNil)))) (vs := [6]) (ρ := [.ow (.lst bag2), .im (.int (w : Int)), .im (.int (many : Int)), .un, .un, .un, .un, .un, .un, .un, .un, .un, .un]) (enc := fun k : Nat => PyData.int (k : Int)) (fun k : Nat => encG (5, 6 + (k : Int), 1)) (List.range many) [] (by simp; omega) (fun k hk => ⟨_, rfl, by simp [encG], by simp⟩)
  have hag : (List.range many).map (fun k : Nat => encG (5, 6 + (k : Int), 1)) = (ag many).map encG := by simp [ag, Function.comp_def]
  rw [hag] at hcomp
  have em : (if w < many then (w : Int) else (many : Int)) = ((min many w : Nat) : Int) := by
    split <;> omega
  have bmin := inRng_nat (show min many w ≤ 1000000 by omega)
  obtain ⟨mn, hmn⟩ : ∃ mn, mn = min many w := ⟨_, rfl⟩
  rw [← hmn] at em bmin
  have hag1 : ∀ k < 6, k < w → (w : Int) - (k : Int) = ((w - k : Nat) : Int) := fun k _ _ => by omega
  simp [bm, rng_eq, hcomp, em, bmin]
  generalize e : dLoop _ _ _ _ = L
  obtain ⟨ρ', h1, h2⟩ := at_loop e (fun i ρ => ∃ x, ρ = [.ow (.lst bag2), .im (.int (w : Int)), .im (.int (many : Int)), .im (.list ((ag many).map encG)), .im (.int (ff w i : Nat)), .im (numD w i), x, .un, .un, .un, .un, .un, .un]) ⟨.un, by simp [ff, numD]⟩ (by
    rintro i d _ hd ⟨x, rfl⟩
    rw [List.getElem?_map, Option.map_eq_some_iff] at hd
    obtain ⟨k, hk, rfl⟩ := hd
    obtain ⟨hk1, hk2⟩ := List.getElem?_eq_some_iff.mp hk
    simp at hk1 hk2
    subst hk2
    have hi : i < w := by omega
    have hn := ff_nums w (by omega) i (by omega) hi
    have hb := (ff_big w (by omega) i (by omega) (by omega)).2
    have hm : okMul (ff w i : Nat) ((w : Int) - (i : Int)) = true := okMul_l (by omega) (by omega)
    have hx : ((ff w i : Nat) : Int) * ((w : Int) - (i : Int)) = ((ff w (i + 1) : Nat) : Int) := by
      rw [show (w : Int) - (i : Int) = ((w - i : Nat) : Int) by omega, ← Int.natCast_mul]
      rfl
    generalize ff w (i + 1) = z at hn hx
    by_cases hbig : 400 < z
    · have hb' : (400 : Int) < (z : Int) := by omega
      obtain ⟨q1, q2⟩ := hn.mp hbig
      by_cases q3 : i = 4
      · have n1 : numD w i = .none := if_neg (by omega)
        have n2 : numD w (i + 1) = .int 5 := if_pos (by omega)
        have q4 : (i : Int) + 1 = 5 := by omega
        simp [hm, hx, hb', n1, n2, q4]
      · have n1 : numD w i = .int 5 := if_pos (by omega)
        have n2 : numD w (i + 1) = .int 5 := if_pos (by omega)
        simp [hm, hx, hb', n1, n2]
    · have hb' : ¬ (400 : Int) < (z : Int) := by omega
      have n1 : numD w i = .none := if_neg (by omega)
      have n2 : numD w (i + 1) = .none := if_neg (by omega)
      simp [hm, hx, hb', n1, n2])
  subst h1
  obtain ⟨x, rfl⟩ := h2
  have hlen : (List.map (fun k : Nat => PyData.int (k : Int)) (List.range mn)).length = mn := by simp
  rw [hlen]
  have hg := ag_ok (many := many) (by omega)
  have hgl := ag_len (many := many)
  have hh : (List.replicate w (0 : Int)).length = w := by simp
  have hne : ag many ≠ [] := fun q => by
    rw [q] at hgl
    simp at hgl
    omega
  have hrep := rep_eq (.int 0) (show w ≤ 1000000 by omega)
  rw [show (PyData.list (List.replicate w (.int 0))) = eIs (List.replicate w 0) by simp [eIs]] at hrep
  by_cases hov : w = 6 ∧ 5 ≤ many
  · have n1 : numD w mn = .int 5 := if_pos (by omega)
    have hover : over 0 [List.replicate w 0] (gts (ag many)) = some 5 := by
      refine over_some (k0 := 4) (by rw [gts_len, hgl]; omega) (fun k hk => ?_) ?_
      · have hl := (ag_lvl (w := w) (many := many) (k + 1) (by omega) (by omega)).1
        have hf := ff_big w (by omega) (k + 1) (by omega) (by omega)
        refine ⟨fun q => ?_, by rw [hl]; omega⟩
        rw [show lvl [List.replicate w 0] (gts (ag many)) (k + 1) = alv w many (k + 1) from rfl] at q
        rw [q] at hl
        have := ff_pos (w := w) (n := k + 1) (by omega)
        simp at hl
        omega
      · have hl := (ag_lvl (w := w) (many := many) 5 (by omega) (by omega)).1
        have hf := ff_big w (by omega) 5 (by omega) (by omega)
        show 400 < (alv w many 5).length
        rw [hl]
        omega
    have hx := laid_over hg (by omega) (by omega) (by omega) hh hne hover
    have htv : (toV (.int 5)).isSome = true := rfl
    simp [hrep, hx, n1, htv, maskO]
  · have n1 : numD w mn = .none := if_neg (by omega)
    have h400 : ∀ k ≤ (ag many).length, (lvl [List.replicate w 0] (gts (ag many)) k).length ≤ 400 := fun k hk => ag_400 (by omega) hov (by omega)
    have hover : over 0 [List.replicate w 0] (gts (ag many)) = none := over_none fun k hk => h400 (k + 1) (by rw [gts_len] at hk; omega)
    have hsize : ∀ k < w, k < many → (alv w many (k + 1)).length = ff w (k + 1) := fun k a c => (ag_lvl (k + 1) (by omega) (by omega)).1
    have hnn : ∀ k < w, k < many → alv w many (k + 1) ≠ [] := fun k a c q => by
      have := hsize k a c
      rw [q] at this
      have := ff_pos (w := w) (n := k + 1) (by omega)
      simp at *
      omega
    have hagk : ∀ k < many, at0 (ag many) k = (5, 6 + (k : Int), 1) := fun k hk => by
      unfold at0 ag
      rw [List.getD_eq_getElem?_getD, List.getElem?_map, List.getElem?_range hk]
      rfl
    by_cases hc : many ≤ w
    · obtain ⟨m, hmm⟩ : ∃ m, many = m + 1 := ⟨many - 1, by omega⟩
      have hlst : lst [List.replicate w 0] (gts (ag many)) = (List.range m).map (fun k => alv w many (k + 1)) ++ [alv w many (m + 1)] := by
        rw [lst_some fun k hk => hnn k (by rw [gts_len] at hk; omega) (by rw [gts_len] at hk; omega), gts_len, hgl]
        rw [show List.range many = List.range m ++ [m] by rw [hmm, List.range_succ], List.map_append, List.map_singleton]
      obtain ⟨ps, wv, W, hl, hx⟩ := laid_some hg (by omega) (by omega) (by omega) hh hne hover hlst (hnn m (by omega) (by omega)) h400
      have hpl := W.len
      rw [hgl] at hpl
      have p1 : ∀ p ∈ ps, p < w := fun p hp => by
        obtain ⟨k, hk, e⟩ := List.mem_iff_getElem.mp hp
        have hf := way_fit0 hg W (k := k) (by omega)
        rw [hagk k (by omega)] at hf
        have h1 : ps.getD k 0 + 1 ≤ (List.replicate w (0 : Int)).length := hf.1
        rw [List.getD_eq_getElem?_getD, List.getElem?_eq_getElem hk, e, hh] at h1
        exact h1
      have p2 : ps.Nodup := by
        rw [List.Nodup, List.pairwise_iff_getElem]
        intro i j hi hj hij q
        have ha := way_apart0 hg W (k := j) (j := i) (by omega) (by omega) (by omega)
        rw [hagk i (by omega), hagk j (by omega)] at ha
        have h3 : ps.getD i 0 + 1 ≤ ps.getD j 0 ∨ ps.getD j 0 + 1 ≤ ps.getD i 0 := ha (by show max (5 : Int) 5 < min (6 + (i : Int)) (6 + (j : Int)); omega)
        rw [List.getD_eq_getElem?_getD, List.getElem?_eq_getElem hi, List.getD_eq_getElem?_getD, List.getElem?_eq_getElem hj] at h3
        simp only [Option.getD_some] at h3
        omega
      have hsort := sortI_ns (ps := ps) (l := (List.range w).filter fun r => decide (r ∈ ps)) (List.pairwise_lt_range.filter _) p2 (fun x => by
        rw [List.mem_filter, decide_eq_true_iff, List.mem_range]
        exact ⟨fun h => h.2, fun h => ⟨p1 x h, h⟩⟩)
      have hcomp2 := lc_typed (g := dName 11) (t := dTest (dOpN fIn 11 (dOpN fIxAny 7 (dC (.int 1))))) (e := dVar 11) (vs := [11]) (ρ := [.ow (.lst bag2), .im (.int (w : Int)), .im (.int (many : Int)), .im (.list ((ag many).map encG)), .im (.int (ff w mn : Nat)), .im .none, x, .im (.tuple [.str "laid", eNs ps]), .un, .un, .un, .un, .un]) (enc := fun k : Nat => PyData.int (k : Int)) (fun r => decide (r ∈ ps)) (fun k : Nat => PyData.int (k : Int)) (List.range w) [] (by simp; omega) (fun r hr => ⟨_, rfl, by
          simp [inD_ns], fun _ => by simp, by simp⟩)
      have hee : eqD (eNs ((List.range w).filter fun r => decide (r ∈ ps))) (.list (((List.range w).filter fun r => decide (r ∈ ps)).map fun (k : Nat) => .int (k : Int))) = some true := by
        have := eqD_ns ((List.range w).filter fun r => decide (r ∈ ps)) ((List.range w).filter fun r => decide (r ∈ ps))
        simpa [eNs] using this
      simp [hrep, hx, hl, n1, hc, bw, rng_eq, hcomp2, hsort, hee, maskO]
    · have hlst := lst_none (R := [List.replicate w 0]) (G := gts (ag many)) (k0 := w) (by rw [gts_len]; omega) (fun k hk => hnn k hk (by omega)) (ag_nil (by omega))
      have hlst2 : lst [List.replicate w 0] (gts (ag many)) = (List.range w).map (fun k => alv w many (k + 1)) ++ [[]] := by
        rw [hlst, List.range_succ, List.map_append, List.map_singleton]
        rw [show lvl [List.replicate w 0] (gts (ag many)) (w + 1) = [] from ag_nil (by omega)]
      obtain ⟨hl, hx⟩ := laid_none hg (by omega) (by omega) (by omega) hh hne hover hlst2
      have hsz : (lst [List.replicate w 0] (gts (ag many))).map (fun T => PyData.int (T.length : Int)) = (((List.range w).map fun k => ((ff w (k + 1) : Nat) : Int)) ++ [0]).map .int := by
        rw [hlst2]
        simp
        intro k hk
        rw [hsize k hk (by omega)]
      have hl6 : (lst [List.replicate w 0] (gts (ag many))).length ≤ 7 := by
        rw [hlst2]
        simp
        omega
      generalize lst [List.replicate w 0] (gts (ag many)) = ts at hl hsz hl6
      have hc' : ¬ many ≤ w := hc
      simp [hrep, hx, hl, n1, hc', bw, rng_eq]
      generalize e9 : dLoop _ _ _ _ = L9
      obtain ⟨ρ9, h5, h6⟩ := at_loop e9 (fun i ρ => ∃ y, ρ = [.ow (.lst bag2), .im (.int (w : Int)), .im (.int (many : Int)), .im (.list ((ag many).map encG)), .im (.int (ff w i : Nat)), .im .none, y, .im (.tuple [.str "none", .list (ts.map encRs)]), .un, .un, .ow (.lst (((List.range i).map fun k => ((ff w (k + 1) : Nat) : Int)).map .int)), .un, .un]) ⟨_, rfl⟩ (by
        rintro i d _ hd ⟨y, rfl⟩
        rw [List.getElem?_map, Option.map_eq_some_iff] at hd
        obtain ⟨k, hk, rfl⟩ := hd
        obtain ⟨hk1, hk2⟩ := List.getElem?_eq_some_iff.mp hk
        simp at hk1 hk2
        subst hk2
        have hb := (ff_big w (by omega) i (by omega) (by omega)).2
        have hm : okMul (ff w i : Nat) ((w : Int) - (i : Int)) = true := okMul_l (by omega) (by omega)
        have hx : ((ff w i : Nat) : Int) * ((w : Int) - (i : Int)) = ((ff w (i + 1) : Nat) : Int) := by
          rw [show (w : Int) - (i : Int) = ((w - i : Nat) : Int) by omega, ← Int.natCast_mul]
          rfl
        have hz : i < sizeLine := lt_line (by omega)
        simp [hm, hx, hz, List.range_succ])
      subst h5
      obtain ⟨y, rfl⟩ := h6
      have hlc := lc_all (g := dName 12) (e := dUn fLenAny (dVw 12)) (vs := [12]) (ρ := [.ow (.lst bag2), .im (.int (w : Int)), .im (.int (many : Int)), .im (.list ((ag many).map encG)), .im (.int (ff w w : Nat)), .im .none, y, .im (.tuple [.str "none", .list (ts.map encRs)]), .un, .un, .ow (.lst (((List.range w).map fun k => ((ff w (k + 1) : Nat) : Int)).map .int)), .un, .un]) (enc := encRs) (fun T => PyData.int (T.length : Int)) ts [] (by simp; omega) (fun T hT => ⟨_, rfl, by simp [encRs], by simp⟩)
      rw [hsz] at hlc
      have hee := eqD_ints (((List.range w).map fun k => ((ff w (k + 1) : Nat) : Int)) ++ [0]) (((List.range w).map fun k => ((ff w (k + 1) : Nat) : Int)) ++ [0])
      have hlen2 : (List.map (fun k : Nat => PyData.int (k : Int)) (List.range w)).length = w := by simp
      have hz2 : w + 1 ≤ sizeLine := le_line (by omega)
      rw [hlen2]
      have hszl : ((List.range w).map fun k => ((ff w (k + 1) : Nat) : Int)).length + 1 ≤ sizeLine := le_line (by simp; omega)
      generalize ((List.range w).map fun k => ((ff w (k + 1) : Nat) : Int)) = sz at hlc hee hszl ⊢
      simp at hee
      simp [hlc, hz2, hee, hszl, maskO]
end K05

set_option linter.all false
set_option maxRecDepth 100000
set_option maxHeartbeats 1000000
namespace K05
open PySem L2 DL
/-- rooms asked for at night i -/
def tn (i : Nat) (L : List Gp) : Nat := ((L.filter fun g => decide (g.1 = 2 * (i : Int))).map fun g => g.2.2.toNat).sum
/-- groups of two nights each that begin at even nights -/
structure Evn (gs : List Gp) : Prop where
  ok : ∀ g ∈ gs, OkG g
  ev : ∀ g ∈ gs, ∃ i : Nat, g.1 = 2 * (i : Int) ∧ g.2.1 = 2 * (i : Int) + 2
  len : gs.length ≤ 100
  ne : gs ≠ []
theorem tn_app (i : Nat) (L : List Gp) (g : Gp) : tn i (L ++ [g]) = tn i L + if g.1 = 2 * (i : Int) then g.2.2.toNat else 0 := by
  unfold tn
  rw [List.filter_append, List.map_append, List.sum_append]
  congr 1
  by_cases h : g.1 = 2 * (i : Int) <;> simp [h]
theorem tn_perm {i : Nat} {L M : List Gp} (h : L.Perm M) : tn i L = tn i M := ((h.filter _).map _).sum_nat
theorem tn_take (i : Nat) (L : List Gp) (k : Nat) : tn i (L.take k) ≤ tn i L := by
  conv => rhs; rw [← List.take_append_drop k L]
  unfold tn
  rw [List.filter_append, List.map_append, List.sum_append]
  exact Nat.le_add_right _ _
def cntG (w : Nat) (x : List Int) (f : Int) : Nat := ((List.range w).filter fun r => decide (f < x.getD r 0)).length
section
variable {gs : List Gp} {w : Nat} (V : Evn gs)
include V
theorem ev_tg {k : Nat} (hk : k < gs.length) : OkG (tg gs k) ∧ ∃ i : Nat, (tg gs k).1 = 2 * (i : Int) ∧ (tg gs k).2.1 = 2 * (i : Int) + 2 := by
  refine ⟨tg_ok V.ok hk, ?_⟩
  unfold tg
  rw [gts_at hk]
  exact V.ev _ (at0_mem (turnAt_lt hk))
theorem ev_take {k : Nat} (hk : k < gs.length) : (gts gs).take (k + 1) = (gts gs).take k ++ [tg gs k] := by
  have hk' : k < (gts gs).length := by rw [gts_len]; exact hk
  rw [List.take_succ_eq_append_getElem hk']
  congr 2
  unfold tg at0
  rw [List.getD_eq_getElem?_getD, List.getElem?_eq_getElem hk']
  rfl
/-- the entries of a step's row -/
theorem ev_cell {x : List Int} {g : Gp} {p r : Nat} {i : Nat} (h1 : g.1 = 2 * (i : Int)) (h2 : g.2.1 = 2 * (i : Int) + 2) (hf : Fits x g p) {j : Nat} (hij : i ≤ j) : (2 * (j : Int) < cell x g p r ↔ (p ≤ r ∧ r < p + g.2.2.toNat ∧ i = j) ∨ 2 * (j : Int) < x.getD r 0) := by
  unfold cell
  split
  · next hp =>
    have := hf.2 r hp.1 hp.2
    constructor
    · intro h
      exact .inl ⟨hp.1, hp.2, by omega⟩
    · rintro (⟨_, _, h⟩ | h)
      · omega
      · omega
  · next hp =>
    split
    · constructor
      · intro h; omega
      · rintro (⟨a, c, _⟩ | h)
        · exact (hp ⟨a, c⟩).elim
        · omega
    · constructor
      · exact .inr
      · rintro (⟨a, c, _⟩ | h)
        · exact (hp ⟨a, c⟩).elim
        · exact h
noncomputable abbrev wlv (w : Nat) (gs : List Gp) (k : Nat) : List (List Int) := lvl [List.replicate w 0] (gts gs) k
omit V in
theorem wlv_wd (k : Nat) : Wd w (wlv w gs k) := lvl_wd (fun r hr => by
  rw [List.mem_singleton] at hr
  subst hr
  simp) k
theorem ev_cnt {x : List Int} {g : Gp} {p i : Nat} (hx : x.length = w) (h1 : g.1 = 2 * (i : Int)) (h2 : g.2.1 = 2 * (i : Int) + 2) (hf : Fits x g p) {j : Nat} (hij : i ≤ j) : cntG w (behindL x g p) (2 * (j : Int)) = cntG w x (2 * (j : Int)) + if g.1 = 2 * (j : Int) then g.2.2.toNat else 0 := by
  unfold cntG
  have hg : ∀ r < w, (2 * (j : Int) < (behindL x g p).getD r 0 ↔ (p ≤ r ∧ r < p + g.2.2.toNat ∧ i = j) ∨ 2 * (j : Int) < x.getD r 0) := fun r hr => by
    rw [behind_get (by omega)]
    exact ev_cell V h1 h2 hf hij
  have hfl := hf.1
  by_cases e : i = j
  · subst e
    rw [if_pos h1]
    have hperm : ((List.range w).filter fun r => decide (2 * (i : Int) < (behindL x g p).getD r 0)).Perm (((List.range w).filter fun r => decide (2 * (i : Int) < x.getD r 0)) ++ (List.range' p g.2.2.toNat)) := by
      refine (List.perm_ext_iff_of_nodup (List.nodup_range.filter _) (List.nodup_append.mpr ⟨List.nodup_range.filter _, List.nodup_range', ?_⟩)).mpr fun r => ?_
      · intro a ha b hb q
        subst q
        rw [List.mem_filter, decide_eq_true_iff] at ha
        rw [List.mem_range'_1] at hb
        have := hf.2 a hb.1 hb.2
        omega
      · rw [List.mem_filter, List.mem_append, List.mem_filter, List.mem_range, decide_eq_true_iff, decide_eq_true_iff, List.mem_range'_1]
        constructor
        · rintro ⟨a, c⟩
          rcases (hg r a).mp c with ⟨c1, c2, _⟩ | c
          · exact .inr ⟨c1, c2⟩
          · exact .inl ⟨a, c⟩
        · rintro (⟨a, c⟩ | ⟨a, c⟩)
          · exact ⟨a, (hg r a).mpr (.inr c)⟩
          · exact ⟨by omega, (hg r (by omega)).mpr (.inl ⟨a, c, rfl⟩)⟩
    rw [hperm.length_eq, List.length_append, List.length_range']
  · rw [if_neg (by omega), Nat.add_zero]
    congr 1
    refine List.filter_congr fun r hr => ?_
    have := hg r (List.mem_range.mp hr)
    rw [decide_eq_decide, this]
    exact ⟨fun h => h.elim (fun h => (e h.2.2).elim) id, .inr⟩
/-- each row holds all of the night's groups -/
theorem wlv_cnt : ∀ k, k ≤ gs.length → ∀ x ∈ wlv w gs k, ∀ j : Nat, (∀ l < k, (tg gs l).1 ≤ 2 * (j : Int)) → cntG w x (2 * (j : Int)) = tn j ((gts gs).take k)
  | 0, _, x, hx, j, _ => by
    have hx : x = List.replicate w 0 := by simpa [lvl] using hx
    subst hx
    unfold cntG
    rw [List.filter_eq_nil_iff.mpr]
    · rfl
    · intro r hr
      rw [List.getD_eq_getElem?_getD, List.getElem?_replicate, if_pos (List.mem_range.mp hr)]
      simp
      omega
  | k + 1, hk, x, hx, j, hj => by
    obtain ⟨row, hr, p, hp, e⟩ := mem_rowsB.mp (show x ∈ rowsB (wlv w gs k) (tg gs k) from hx)
    obtain ⟨hf, rfl⟩ := rowB_some.mp e
    obtain ⟨hok, i, h1, h2⟩ := ev_tg V (k := k) (by omega)
    have hij := hj k (by omega)
    rw [ev_cnt V (wlv_wd k row hr) h1 h2 hf (by omega), wlv_cnt k (by omega) row hr j fun l hl => hj l (by omega), ev_take V (by omega), tn_app]
/-- entries of a row -/
theorem wlv_ent : ∀ k, k ≤ gs.length → ∀ x ∈ wlv w gs k, ∀ r < w, x.getD r 0 = 0 ∨ ∃ l, l + 1 = k ∧ x.getD r 0 = (tg gs l).2.1
  | 0, _, x, hx, r, hr => by
    have hx : x = List.replicate w 0 := by simpa [lvl] using hx
    subst hx
    rw [List.getD_eq_getElem?_getD, List.getElem?_replicate, if_pos hr]
    exact .inl rfl
  | k + 1, hk, x, hx, r, hr => by
    obtain ⟨row, hrow, p, hp, e⟩ := mem_rowsB.mp (show x ∈ rowsB (wlv w gs k) (tg gs k) from hx)
    obtain ⟨hf, rfl⟩ := rowB_some.mp e
    rw [behind_get (by rw [wlv_wd k row hrow]; exact hr)]
    unfold cell
    split
    · exact .inr ⟨k, rfl, rfl⟩
    · split
      · exact .inl rfl
      · next hq =>
        rcases wlv_ent k (by omega) row hrow r hr with h | ⟨l, rfl, h⟩
        · obtain ⟨hok, _⟩ := ev_tg V (k := k) (by omega)
          have := hok.f0
          omega
        · obtain ⟨_, i, a1, a2⟩ := ev_tg V (k := l) (by omega)
          obtain ⟨_, i2, c1, c2⟩ := ev_tg V (k := l + 1) (by omega)
          have := tg_up (gs := gs) (k := l) (l := l + 1) (by omega) (by omega)
          refine .inr ⟨l + 1, rfl, ?_⟩
          omega
end
def allR (a : Int) : Nat → List (List Int)
  | 0 => [[]]
  | w + 1 => (allR a w).flatMap fun l => [0 :: l, a :: l]
theorem allR_len (a : Int) : ∀ w, (allR a w).length = 2 ^ w
  | 0 => rfl
  | w + 1 => by rw [allR, len_flat (c := 2) fun x _ => rfl, allR_len a w, Nat.pow_succ]
theorem allR_mem (a : Int) : ∀ (w : Nat) (x : List Int), x.length = w → (∀ r < w, x.getD r 0 = 0 ∨ x.getD r 0 = a) → x ∈ allR a w
  | 0, x, h, _ => by
    rw [List.length_eq_zero_iff.mp h]
    exact .head _
  | w + 1, [], h, _ => by simp at h
  | w + 1, y :: x, h, hx => by
    rw [allR, List.mem_flatMap]
    refine ⟨x, allR_mem a w x (by simpa using h) fun r hr => hx (r + 1) (by omega), ?_⟩
    rcases hx 0 (by omega) with h0 | h0
    · have h0 : y = 0 := h0
      rw [h0]
      exact .head _
    · have h0 : y = a := h0
      rw [h0]
      exact .tail _ (.head _)
section
variable {gs : List Gp} {w : Nat} (V : Evn gs)
include V
theorem wlv_len (w6 : w ≤ 6) {k : Nat} (hk : k ≤ gs.length) : (wlv w gs k).length ≤ 64 := by
  cases k with
  | zero => simp [lvl]
  | succ k =>
    have hn : (wlv w gs (k + 1)).Nodup := rowsB_nodup _ _
    have := hn.length_le_of_subset (l₂ := allR (tg gs k).2.1 w) fun x hx => allR_mem _ w x (wlv_wd (k + 1) x hx) fun r hr => by
      rcases wlv_ent V (k + 1) hk x hx r hr with h | ⟨l, h1, h2⟩
      · exact .inl h
      · have : l = k := by omega
        subst this
        exact .inr h2
    rw [allR_len] at this
    have h2 := Nat.pow_le_pow_right (show 0 < 2 by omega) w6
    omega
/-- too many for the rooms at some night: no rows -/
theorem wlv_big {j : Nat} (hj : w < tn j gs) : wlv w gs gs.length = [] := by
  cases hq : wlv w gs gs.length with
  | nil => rfl
  | cons x0 l0 =>
    exfalso
    -- a way back through the levels
    have back : ∀ k, k ≤ gs.length → ∃ x, x ∈ wlv w gs k := by
      intro k hk
      have : ∀ d k, k + d = gs.length → ∃ x, x ∈ wlv w gs k := by
        intro d
        induction d with
        | zero =>
          intro k hk
          have : k = gs.length := by omega
          subst this
          exact ⟨x0, by rw [hq]; exact .head _⟩
        | succ d ih =>
          intro k hk
          obtain ⟨x, hx⟩ := ih (k + 1) (by omega)
          obtain ⟨row, hr, _⟩ := mem_rowsB.mp (show x ∈ rowsB (wlv w gs k) (tg gs k) from hx)
          exact ⟨row, hr⟩
      exact this (gs.length - k) k (by omega)
    -- the level behind the night's last group
    obtain ⟨k, hk, h1, h2⟩ : ∃ k, k ≤ gs.length ∧ (∀ l < k, (tg gs l).1 ≤ 2 * (j : Int)) ∧ ∀ l, k ≤ l → l < gs.length → 2 * (j : Int) < (tg gs l).1 := by
      have : ∀ n, n ≤ gs.length → ∃ k, k ≤ n ∧ (∀ l < k, (tg gs l).1 ≤ 2 * (j : Int)) ∧ ∀ l, k ≤ l → l < n → 2 * (j : Int) < (tg gs l).1 := by
        intro n
        induction n with
        | zero => exact fun _ => ⟨0, Nat.le_refl _, fun l hl => by omega, fun l _ hl => by omega⟩
        | succ n ih =>
          intro hn
          obtain ⟨k, a, c, d⟩ := ih (by omega)
          by_cases hf : (tg gs n).1 ≤ 2 * (j : Int)
          · refine ⟨n + 1, Nat.le_refl _, fun l hl => ?_, fun l _ _ => by omega⟩
            have := tg_up (gs := gs) (k := l) (l := n) (by omega) (by omega)
            omega
          · refine ⟨k, by omega, c, fun l h1 h2 => ?_⟩
            by_cases e : l = n
            · subst e; omega
            · exact d l h1 (by omega)
      exact this gs.length (Nat.le_refl _)
    obtain ⟨x, hx⟩ := back k hk
    have hc := wlv_cnt V k hk x hx j h1
    have hle : cntG w x (2 * (j : Int)) ≤ w := by
      have := List.length_filter_le (fun r => decide (2 * (j : Int) < x.getD r 0)) (List.range w)
      rw [List.length_range] at this
      exact this
    have ht : tn j ((gts gs).take k) = tn j gs := by
      rw [← tn_perm (gts_perm gs)]
      conv => rhs; rw [← List.take_append_drop k (gts gs)]
      unfold tn
      rw [List.filter_append, List.map_append, List.sum_append]
      have : ((gts gs).drop k).filter (fun g => decide (g.1 = 2 * (j : Int))) = [] := by
        rw [List.filter_eq_nil_iff]
        intro g hg
        obtain ⟨i, hi, e⟩ := List.mem_iff_getElem.mp hg
        rw [List.getElem_drop] at e
        have hil : k + i < gs.length := by
          rw [List.length_drop, gts_len] at hi
          omega
        have := h2 (k + i) (by omega) hil
        have e2 : tg gs (k + i) = g := by
          unfold tg at0
          rw [List.getD_eq_getElem?_getD, List.getElem?_eq_getElem (by rw [gts_len]; exact hil), ← e]
          rfl
        rw [e2] at this
        simp
        omega
      rw [this]
      simp
    omega
/-- room enough at each night: packed rows -/
theorem wlv_ok (hw : ∀ j, tn j gs ≤ w) : ∀ k, k ≤ gs.length → ∃ x ∈ wlv w gs k, ∀ j : Nat, (∀ l < k, (tg gs l).1 ≤ 2 * (j : Int)) → ∀ r < w, (2 * (j : Int) < x.getD r 0 ↔ r < tn j ((gts gs).take k))
  | 0, _ => by
    refine ⟨List.replicate w 0, by simp [lvl], fun j _ r hr => ?_⟩
    rw [List.getD_eq_getElem?_getD, List.getElem?_replicate, if_pos hr]
    simp [tn]
    omega
  | k + 1, hk => by
    obtain ⟨x, hx, h⟩ := wlv_ok hw k (by omega)
    obtain ⟨hok, i, h1, h2⟩ := ev_tg V (k := k) (by omega)
    have hxl : x.length = w := wlv_wd k x hx
    have hp := h i fun l hl => by
      rw [← h1]
      exact tg_up (by omega) (by omega)
    have htk := tn_app i ((gts gs).take k) (tg gs k)
    rw [← ev_take V (by omega), if_pos h1] at htk
    have hle : tn i ((gts gs).take (k + 1)) ≤ w := Nat.le_trans (tn_take i (gts gs) (k + 1)) (by rw [tn_perm (gts_perm gs)]; exact hw i)
    obtain ⟨p, hpe⟩ : ∃ p, p = tn i ((gts gs).take k) := ⟨_, rfl⟩
    have hm1 := hok.m1
    have hf : Fits x (tg gs k) p := by
      refine ⟨by omega, fun r r1 r2 => ?_⟩
      have hq : ¬ 2 * (i : Int) < x.getD r 0 := fun q => by
        have := (hp r (by omega)).mp q
        omega
      omega
    refine ⟨behindL x (tg gs k) p, ?_, fun j hj r hr => ?_⟩
    · exact mem_rowsB.mpr ⟨x, hx, p, by omega, rowB_some.mpr ⟨hf, rfl⟩⟩
    · have hij : i ≤ j := by
        have := hj k (by omega)
        omega
      rw [behind_get (by omega), ev_cell V h1 h2 hf hij, h j (fun l hl => hj l (by omega)) r hr, ev_take V (by omega), tn_app]
      by_cases e : i = j
      · subst e
        rw [if_pos h1, ← hpe]
        omega
      · rw [if_neg (by omega)]
        omega
end
/-- the first level without rows -/
theorem first_nil {R : List (List Int)} {G : List Gp} : ∀ n, lvl R G n = [] → R ≠ [] → ∃ k0 < n, lvl R G (k0 + 1) = [] ∧ ∀ k < k0, lvl R G (k + 1) ≠ []
  | 0, h, hR => (hR h).elim
  | n + 1, h, hR => by
    by_cases h0 : lvl R G n = []
    · obtain ⟨k0, a, c, d⟩ := first_nil n h0 hR
      exact ⟨k0, by omega, c, d⟩
    · refine ⟨n, by omega, h, fun k hk q => h0 ?_⟩
      have : ∀ d, lvl R G (k + 1 + d) = [] := by
        intro d
        induction d with
        | zero => exact q
        | succ d ih =>
          show rowsB (lvl R G (k + 1 + d)) _ = []
          rw [ih, rowsB_nil]
      have := this (n - (k + 1))
      rwa [show k + 1 + (n - (k + 1)) = n by omega] at this
end K05

set_option linter.all false
set_option maxRecDepth 100000
set_option maxHeartbeats 1000000
namespace K05
open PySem L2 DL
def nightG (k : Nat) (l : List Nat) : List Gp := l.map fun (m : Nat) => (2 * (k : Int), 2 * (k : Int) + 2, (m : Int))
def gsOf (ns : List (List Nat)) : List Gp := ns.zipIdx.flatMap fun p => nightG p.2 p.1
theorem gsOf_snoc (ns : List (List Nat)) (l : List Nat) : gsOf (ns ++ [l]) = gsOf ns ++ nightG ns.length l := by
  unfold gsOf
  rw [List.zipIdx_append, List.flatMap_append]
  simp
theorem tn_append (i : Nat) (L M : List Gp) : tn i (L ++ M) = tn i L + tn i M := by
  unfold tn
  rw [List.filter_append, List.map_append, List.sum_append]
theorem tn_night (i k : Nat) (l : List Nat) : tn i (nightG k l) = if i = k then l.sum else 0 := by
  unfold tn nightG
  by_cases h : i = k
  · subst h
    rw [if_pos rfl, List.filter_eq_self.mpr (by
      intro g hg
      obtain ⟨m, _, rfl⟩ := List.mem_map.mp hg
      simp), List.map_map]
    congr 1
    have : l.map ((fun g : Gp => g.2.2.toNat) ∘ fun (m : Nat) => (2 * (i : Int), 2 * (i : Int) + 2, (m : Int))) = l.map id := List.map_congr_left fun m _ => by simp
    rw [this, List.map_id]
  · rw [if_neg h, List.filter_eq_nil_iff.mpr]
    · rfl
    · intro g hg
      obtain ⟨m, _, rfl⟩ := List.mem_map.mp hg
      simp
      omega
theorem tn_gsOf (i : Nat) : ∀ (n : Nat) (ns : List (List Nat)), ns.length = n → tn i (gsOf ns) = (ns.getD i []).sum
  | 0, ns, h => by
    have : ns = [] := List.length_eq_zero_iff.mp h
    subst this
    rfl
  | n + 1, ns, h => by
    rcases List.eq_nil_or_concat ns with rfl | ⟨init, l, e⟩
    · simp at h
    · have e' : ns = init ++ [l] := by simpa using e
      subst e'
      have hl : init.length = n := by simpa using h
      rw [gsOf_snoc, tn_append, tn_gsOf i n init hl, tn_night]
      by_cases h1 : i < init.length
      · rw [if_neg (by omega), Nat.add_zero, List.getD_eq_getElem?_getD, List.getD_eq_getElem?_getD, List.getElem?_append_left h1]
      · rw [List.getD_eq_getElem?_getD (l := init), List.getElem?_eq_none (by omega), List.getD_eq_getElem?_getD, List.getElem?_append_right (by omega)]
        by_cases h2 : i = init.length
        · rw [if_pos h2, h2]
          simp
        · rw [if_neg h2, List.getElem?_eq_none (by simp; omega)]
          rfl
theorem mem_gsOf {ns : List (List Nat)} {g : Gp} (h : g ∈ gsOf ns) : ∃ (k : Nat) (l : List Nat) (m : Nat), ns[k]? = some l ∧ m ∈ l ∧ g = (2 * (k : Int), 2 * (k : Int) + 2, (m : Int)) := by
  unfold gsOf at h
  rw [List.mem_flatMap] at h
  obtain ⟨⟨l, k⟩, h1, h2⟩ := h
  obtain ⟨m, h3, e⟩ := List.mem_map.mp h2
  have h4 := List.mem_zipIdx_iff_getElem?.mp h1
  exact ⟨k, l, m, h4, h3, e.symm⟩
/-- what the draws of nights are -/
structure Nts (ns : List (List Nat)) : Prop where
  n1 : 1 ≤ ns.length
  n4 : ns.length ≤ 4
  l1 : ∀ l ∈ ns, 1 ≤ l.length ∧ l.length ≤ 3
  m1 : ∀ l ∈ ns, ∀ m ∈ l, 1 ≤ m ∧ m ≤ 3
theorem gsOf_len {ns : List (List Nat)} : ∀ n, ns.length = n → (∀ l ∈ ns, l.length ≤ 3) → (gsOf ns).length ≤ 3 * n
  | 0, h, _ => by
    have : ns = [] := List.length_eq_zero_iff.mp h
    subst this
    simp [gsOf]
  | n + 1, h, hl => by
    rcases List.eq_nil_or_concat ns with rfl | ⟨init, l, e⟩
    · simp at h
    · have e' : ns = init ++ [l] := by simpa using e
      subst e'
      have h1 := gsOf_len (ns := init) n (by simpa using h) fun l hl' => hl l (by simp [hl'])
      have h2 := hl l (by simp)
      rw [gsOf_snoc, List.length_append]
      unfold nightG
      rw [List.length_map]
      omega
theorem evn_of {ns : List (List Nat)} {gs : List Gp} (N : Nts ns) (hp : gs.Perm (gsOf ns)) : Evn gs := by
  have hlen := gsOf_len (ns := ns) _ rfl fun l hl => (N.l1 l hl).2
  have := N.n4
  refine ⟨fun g hg => ?_, fun g hg => ?_, by rw [hp.length_eq]; omega, fun q => ?_⟩
  · obtain ⟨k, l, m, h1, h2, rfl⟩ := mem_gsOf (hp.mem_iff.mp hg)
    have hk : k < ns.length := (List.getElem?_eq_some_iff.mp h1).1
    have hm := N.m1 l (List.mem_of_getElem? h1) m h2
    exact ⟨by dsimp only; omega, by dsimp only; omega, by dsimp only; omega, by dsimp only; omega, by dsimp only; omega⟩
  · obtain ⟨k, l, m, h1, h2, rfl⟩ := mem_gsOf (hp.mem_iff.mp hg)
    exact ⟨k, rfl, rfl⟩
  · subst q
    have h0 := hp.length_eq
    have h1 : ns[0]? = some (ns[0]'(by have := N.n1; omega)) := List.getElem?_eq_getElem _
    have h2 := List.mem_of_getElem? h1
    have h3 := N.l1 _ h2
    have h4 : tn 0 (gsOf ns) = (ns.getD 0 []).sum := tn_gsOf 0 _ ns rfl
    rw [List.length_nil] at h0
    have : gsOf ns = [] := List.length_eq_zero_iff.mp h0.symm
    rw [this, List.getD_eq_getElem?_getD, h1] at h4
    generalize ns[0]'(by have := N.n1; omega) = l at *
    cases l with
    | nil => simp at h3
    | cons a l =>
      have := N.m1 _ h2 a (.head _)
      simp [tn] at h4
      omega
section
variable {gs : List Gp} {w most : Nat} (V : Evn gs)
include V
/-- is_none of the lists that lists_of tells -/
theorem lst_is_none (w1 : 1 ≤ w) (w6 : w ≤ 6) {k0 : Nat} (hk0 : k0 < gs.length) (h : lst [List.replicate w 0] (gts gs) = (List.range (k0 + 1)).map fun k => wlv w gs (k + 1)) (hnil : wlv w gs (k0 + 1) = []) :
    m_is_none [.im (eIs (List.replicate w 0)), .im (.list (gs.map encG)), .im (.list ((lst [List.replicate w 0] (gts gs)).map encRs))] = some (.im (.bool true), [.un, .un, .un]) := by
  have hl : ((List.range (k0 + 1)).map fun k => wlv w gs (k + 1)).length = k0 + 1 := by simp
  have hget : ∀ k < k0 + 1, ((List.range (k0 + 1)).map fun k => wlv w gs (k + 1)).getD k [] = wlv w gs (k + 1) := fun k hk => by
    rw [List.getD_eq_getElem?_getD, List.getElem?_map, List.getElem?_range hk]
    rfl
  rw [h]
  have := none_eq V.ok V.len w1 w6 (held := List.replicate w 0) (by simp) (ts := (List.range (k0 + 1)).map fun k => wlv w gs (k + 1)) (by omega) (by omega) (fun T hT => by
    obtain ⟨k, hk, rfl⟩ := List.mem_map.mp hT
    have hk := List.mem_range.mp hk
    exact ⟨wlv_wd _, Nat.le_trans (wlv_len V w6 (by omega)) (by omega)⟩) (fun k hk x hx => by
    rw [hl] at hk
    rw [hget k hk]
    have : ahead (List.replicate w 0) ((List.range (k0 + 1)).map fun k => wlv w gs (k + 1)) k = wlv w gs k := by
      cases k with
      | zero => rfl
      | succ k =>
        show ((List.range (k0 + 1)).map fun k => wlv w gs (k + 1)).getD k [] = _
        rw [hget k (by omega)]
    rw [this] at hx
    exact hx)
  rw [hl, hget _ (by omega), show k0 + 1 - 1 + 1 = k0 + 1 by omega, hnil] at this
  exact this
theorem wide_laid (w1 : 1 ≤ w) (w6 : w ≤ 6) (h1 : ∀ j, tn j gs ≤ most) (h2 : ∃ j, tn j gs = most) : ∃ d, x_laid [.im (eIs (List.replicate w 0)), .im (.list (gs.map encG))] = none ∧
    m_laid [.im (eIs (List.replicate w 0)), .im (.list (gs.map encG))] = some (.im (.tuple [.str (if most ≤ w then "laid" else "none"), d]), [.un, .un]) ∧
    (most ≤ w → ∃ ps wv, d = eNs ps ∧ Way (List.replicate w 0) gs ps wv) ∧
    (w < most → ∃ init : List PyData, d = .list (init ++ [.list []]) ∧ m_is_none [.im (eIs (List.replicate w 0)), .im (.list (gs.map encG)), .im d] = some (.im (.bool true), [.un, .un, .un])) := by
  have hh : (List.replicate w (0 : Int)).length = w := by simp
  have h400 : ∀ k ≤ gs.length, (lvl [List.replicate w 0] (gts gs) k).length ≤ 400 := fun k hk => Nat.le_trans (wlv_len V w6 hk) (by omega)
  have hover : over 0 [List.replicate w 0] (gts gs) = none := over_none fun k hk => h400 (k + 1) (by rw [gts_len] at hk; omega)
  by_cases hm : most ≤ w
  · have hok := wlv_ok V (w := w) fun j => Nat.le_trans (h1 j) hm
    have hne : ∀ k ≤ gs.length, wlv w gs k ≠ [] := fun k hk q => by
      obtain ⟨x, hx, _⟩ := hok k hk
      rw [q] at hx
      cases hx
    obtain ⟨n, hn⟩ : ∃ n, gs.length = n + 1 := ⟨gs.length - 1, by have := List.length_pos_iff.mpr V.ne; omega⟩
    have hlst : lst [List.replicate w 0] (gts gs) = (List.range n).map (fun k => wlv w gs (k + 1)) ++ [wlv w gs (n + 1)] := by
      rw [lst_some fun k hk => hne (k + 1) (by rw [gts_len] at hk; omega), gts_len, hn, List.range_succ, List.map_append, List.map_singleton]
    obtain ⟨ps, wv, W, hl, hx⟩ := laid_some V.ok V.len w1 w6 hh V.ne hover hlst (hne _ (by omega)) h400
    refine ⟨eNs ps, hx, by rw [if_pos hm]; exact hl, fun _ => ⟨ps, wv, rfl, W⟩, fun h => by omega⟩
  · obtain ⟨j, hj⟩ := h2
    have hnil := wlv_big V (w := w) (j := j) (by omega)
    obtain ⟨k0, a, c, d⟩ := first_nil gs.length hnil (by simp)
    have hlst := lst_none (R := [List.replicate w 0]) (G := gts gs) (by rw [gts_len]; exact a) d c
    have hlst2 : lst [List.replicate w 0] (gts gs) = (List.range k0).map (fun k => wlv w gs (k + 1)) ++ [[]] := by
      rw [hlst, List.range_succ, List.map_append, List.map_singleton, c]
    obtain ⟨hl, hx⟩ := laid_none V.ok V.len w1 w6 hh V.ne hover hlst2
    have hn := lst_is_none V w1 w6 a hlst c
    refine ⟨_, hx, by rw [if_neg hm]; exact hl, fun h => (hm h).elim, fun _ => ⟨((List.range k0).map fun k => wlv w gs (k + 1)).map encRs, ?_, hn⟩⟩
    rw [hlst2, List.map_append, List.map_singleton]
    rfl
end
theorem own_filter {gs : List Gp} {ps : List Nat} {night : Int} {r : Nat} : ∀ n, (∀ j < n, ∀ k < n, cov gs ps night j r = true → cov gs ps night k r = true → j = k) → (List.range n).filter (fun k => cov gs ps night k r) = (own gs ps night n r).toList
  | 0, _ => rfl
  | n + 1, h => by
    rw [List.range_succ, List.filter_append, own_filter n fun j hj k hk => h j (by omega) k (by omega), own]
    by_cases q : cov gs ps night n r = true
    · rw [if_pos q, List.filter_cons, if_pos q]
      have : own gs ps night n r = none := by
        cases ho : own gs ps night n r with
        | none => rfl
        | some k =>
          exfalso
          have hm : k ∈ (List.range n).filter (fun k => cov gs ps night k r) := by
            rw [own_filter n fun j hj k hk => h j (by omega) k (by omega), ho]
            simp
          obtain ⟨a, c⟩ := List.mem_filter.mp hm
          have := List.mem_range.mp a
          have := h k (by omega) n (by omega) c q
          omega
      rw [this]
      rfl
    · rw [if_neg q, List.filter_cons, if_neg q]
      simp
theorem way_cov {gs : List Gp} {held : List Int} {ps : List Nat} {wv : Nat → List Int} (hg : ∀ g ∈ gs, OkG g) (W : Way held gs ps wv) {night : Int} {r j k : Nat} (hj : j < gs.length) (hk : k < gs.length) (h1 : cov gs ps night j r = true) (h2 : cov gs ps night k r = true) : j = k := by
  apply Classical.byContradiction
  intro hne
  have ha := way_apart0 hg W hk hj hne
  unfold cov at h1 h2
  simp only [Bool.and_eq_true, decide_eq_true_eq] at h1 h2
  have := ha (by omega)
  omega
end K05

set_option linter.all false
set_option maxRecDepth 100000
set_option maxHeartbeats 2000000
namespace K05
open PySem L2 DL
theorem nights_loop {bag : List PyData} (hb0 : BagOk bag) {n : Nat} (hn : n ≤ 4) : ∀ L, L = dLoop (dName 2) (dApp 1 (dIm (dLc (dRng1 (dOp fAddAny (dC (.int 1)) (dIm (dCall m__law_take [] (dConsR (dAt 0) (dConsR (dEx (dC (.int 3))) dNilR)))))) (dName 12) dYes (dOp fAddAny (dC (.int 1)) (dIm (dCall m__law_take [] (dConsR (dAt 0) (dConsR (dEx (dC (.int 3))) dNilR))))) [12])))
    ((List.range n).map fun k : Nat => .int (k : Int)) [.ow (.lst bag), .ow (.lst []), .un, .un, .un, .un, .un, .un, .un, .un, .un, .un, .un, .un] →
    ∃ (ns : List (List Nat)) (bag' : List PyData) (x : Sl), L = some (.nx, [.ow (.lst bag'), .ow (.lst (ns.map eNs)), x, .un, .un, .un, .un, .un, .un, .un, .un, .un, .un, .un]) ∧ BagOk bag' ∧ ns.length = n ∧ (∀ l ∈ ns, 1 ≤ l.length ∧ l.length ≤ 3) ∧ ∀ l ∈ ns, ∀ m ∈ l, 1 ≤ m ∧ m ≤ 3 := by
  intro L e
  obtain ⟨ρ', h1, h2⟩ := at_loop e.symm (fun i ρ => ∃ (ns : List (List Nat)) (bag' : List PyData) (x : Sl), ρ = [.ow (.lst bag'), .ow (.lst (ns.map eNs)), x, .un, .un, .un, .un, .un, .un, .un, .un, .un, .un, .un] ∧ BagOk bag' ∧ ns.length = i ∧ (∀ l ∈ ns, 1 ≤ l.length ∧ l.length ≤ 3) ∧ ∀ l ∈ ns, ∀ m ∈ l, 1 ≤ m ∧ m ≤ 3)
    ⟨[], bag, .un, rfl, hb0, rfl, fun l h => (by cases h), fun l h => (by cases h)⟩ (by
    rintro i d _ hd ⟨ns, bag1, x, rfl, hb1, hl, q1, q2⟩
    rw [List.getElem?_map, Option.map_eq_some_iff] at hd
    obtain ⟨k, hk, rfl⟩ := hd
    obtain ⟨hk1, hk2⟩ := List.getElem?_eq_some_iff.mp hk
    simp at hk1 hk2
    subst hk2
    obtain ⟨v, bag2, e2, v1, hb2⟩ := take_nat hb1 (many := 3) (by omega) (by omega)
    obtain ⟨c, hc⟩ : ∃ c : Nat, c = 1 + v := ⟨_, rfl⟩
    obtain ⟨ds, bag3, e3, hb3, l3, g3⟩ := draws (g := dName 12) (e := dOp fAddAny (dC (.int 1)) (dIm (dCall m__law_take [] (dConsR (dAt 0) (dConsR (dEx (dC (.int 3))) dNilR))))) (vs := [12]) (enc := fun k : Nat => PyData.int (k : Int))
      (fun bag => [.ow (.lst bag), .ow (.lst (ns.map eNs)), .im (.int (i : Int)), .un, .un, .un, .un, .un, .un, .un, .un, .un, .un, .un]) (fun _ d => ∃ m : Nat, d = .int (m : Int) ∧ 1 ≤ m ∧ m ≤ 3) (List.range c) bag2 [] hb2 (by simp; omega) (fun bag hb x _ => by
        obtain ⟨u, bag', e, u1, hb'⟩ := take_nat hb (many := 3) (by omega) (by omega)
        refine ⟨_, _, .int ((1 + u : Nat) : Int), bag', rfl, by simp [e]; rfl, by simp, hb', 1 + u, rfl, by omega, by omega⟩)
    obtain ⟨l, rfl, hll, hlm⟩ := typed_of _ _ l3 g3
    have bc := inRng_nat (show c ≤ 1000000 by omega)
    have hz : ns.length < sizeLine := lt_line (by omega)
    rw [List.length_range] at hll
    simp only [e_dName, bnd_some, e_dApp, e_dIm, e_dLc, e_dRng1]
    simp [e2, show (1 : Int) + (v : Int) = (c : Int) by omega, bc, rng_eq, e3, hz]
    refine ⟨ns ++ [l], bag3, ⟨rfl, by simp [eNs]⟩, hb3, by simp [hl], fun l2 h => ?_, fun l2 h m hm => ?_⟩
    · rcases List.mem_append.mp h with h | h
      · exact q1 l2 h
      · rw [List.mem_singleton] at h
        subst h
        omega
    · rcases List.mem_append.mp h with h | h
      · exact q2 l2 h m hm
      · rw [List.mem_singleton] at h
        subst h
        obtain ⟨j, hj, e4⟩ := List.mem_iff_getElem.mp hm
        obtain ⟨y, h5, h6⟩ := hlm j j (List.getElem?_range (by omega))
        rw [List.getElem?_eq_getElem hj, e4] at h5
        cases h5
        exact h6)
  obtain ⟨ns, bag', x, rfl, a, b, c, d⟩ := h2
  exact ⟨ns, bag', x, h1, a, by simpa using b, c, d⟩
end K05

set_option linter.all false
set_option maxRecDepth 100000
set_option maxHeartbeats 2000000
namespace K05
open PySem L2 DL
theorem sum_ns (l : List Nat) : fSum (eNs l) = some (.int ((l.sum : Nat) : Int)) := by
  unfold fSum eNs
  rw [ns_ints]
  simp only [intsOf, al_l, Option.bind_some, asInts_map, Option.map_some]
  congr 2
  induction l with
  | nil => rfl
  | cons a l ih => simp [ih]
theorem lmax_nat {l : List Nat} (h : l ≠ []) : ∃ m ∈ l, (∀ x ∈ l, x ≤ m) ∧ lmax (l.map fun (k : Nat) => (k : Int)) = (m : Int) := by
  obtain ⟨h1, h2⟩ := lmax_ok (ns := l.map fun (k : Nat) => (k : Int)) (by simpa using List.length_pos_iff.mpr h)
  obtain ⟨m, hm, e⟩ := List.mem_map.mp h1
  refine ⟨m, hm, fun x hx => ?_, e.symm⟩
  have := h2 x (List.mem_map.mpr ⟨x, hx, rfl⟩)
  rw [← e] at this
  omega
theorem sum_le : ∀ {l : List Nat}, l.length ≤ 3 → (∀ m ∈ l, m ≤ 3) → l.sum ≤ 9
  | [], _, _ => by simp
  | [a], _, h => by simp at *; omega
  | [a, b], _, h => by simp at *; omega
  | [a, b, c], _, h => by simp at *; omega
  | _ :: _ :: _ :: _ :: _, h, _ => by simp at h
theorem sum_ge {l : List Nat} (h : 1 ≤ l.length) (h1 : ∀ m ∈ l, 1 ≤ m) : 1 ≤ l.sum := by
  cases l with
  | nil => simp at h
  | cons a l =>
    have := h1 a (.head _)
    simp
    omega
theorem own_lt {gs : List Gp} {ps : List Nat} {night : Int} {r : Nat} : ∀ n k, own gs ps night n r = some k → k < n ∧ cov gs ps night k r = true
  | 0, k, h => by cases h
  | n + 1, k, h => by
    rw [own] at h
    split at h
    · next q =>
      cases h
      exact ⟨by omega, q⟩
    · obtain ⟨a, c⟩ := own_lt n k h
      exact ⟨by omega, c⟩
theorem check_loop {gs : List Gp} {held : List Int} {ps : List Nat} {wv : Nat → List Int} {night most : Nat} {b0 a1 x5 : Sl} {t3 : PyData} (V : Evn gs) (W : Way held gs ps wv) (hm : most ≤ 6) : ∀ L, L = dLoop (dGTup 2 (dGCons (dName 8) (dGCons (dName 9) dGNil)))
    (dSeq (dAsg 10 (dIm (dLc (dRng1 (dUn fLenAny (dVw 3))) (dName 12) (dTest (dOp fEq (dOp fDivB (dOp fIxAny (dOpN fIxAny 3 (dVw 12)) (dC (.int 0))) (dC (.int 2))) (dOpN fDivB 2 (dC (.int 2))))) (dVar 12) [12])))
    (dSeq (dAsg 11 (dIm (dLc (dItL (dVar 10)) (dName 12) (dAnd (dTest (dOp fLe (dOp fIxAny (dOpN fIxAny 6 (dC (.int 2))) (dVw 12)) (dVw 8))) (dTest (dOpN fLt 8 (dOp fAddAny (dOp fIxAny (dOpN fIxAny 6 (dC (.int 2))) (dVw 12)) (dOp fIxAny (dOpN fIxAny 3 (dVw 12)) (dC (.int 2))))))) (dVar 12) [12])))
    (dIfS (dTest (dOpN fNe 9 (dIf (dTest (dOpN fNe 11 (dIm (dLst dNil)))) (dOpN fIxAny 11 (dC (.int 0))) (dC .none)))) (dRet (dC (.bool false))) dNext)))
    ((((List.range most).map fun r => encON (own gs ps (night : Int) gs.length r)).zipIdx).map fun p => .tuple [.int (p.2 : Int), p.1])
    [b0, a1, .im (.int (night : Int)), .im (.list (gs.map encG)), .im (.int (most : Int)), x5, .im (.tuple [.str "wide", .int (most : Int), eNs ps, t3]), .im (.list ((List.range most).map fun r => encON (own gs ps (night : Int) gs.length r))), .un, .un, .un, .un, .un, .un] →
    ∃ y8 y9 y10 y11 y12, L = some (.nx, [b0, a1, .im (.int (night : Int)), .im (.list (gs.map encG)), .im (.int (most : Int)), x5, .im (.tuple [.str "wide", .int (most : Int), eNs ps, t3]), .im (.list ((List.range most).map fun r => encON (own gs ps (night : Int) gs.length r))), y8, y9, y10, y11, y12, .un]) := by
  intro L e
  obtain ⟨ρ', h1, h2⟩ := at_loop e.symm (fun i ρ => ∃ y8 y9 y10 y11 y12, ρ = [b0, a1, .im (.int (night : Int)), .im (.list (gs.map encG)), .im (.int (most : Int)), x5, .im (.tuple [.str "wide", .int (most : Int), eNs ps, t3]), .im (.list ((List.range most).map fun r => encON (own gs ps (night : Int) gs.length r))), y8, y9, y10, y11, y12, .un]) ⟨_, _, _, _, _, rfl⟩ (by
    rintro i d _ hd ⟨y8, y9, y10, y11, y12, rfl⟩
    clear e
    rw [List.getElem?_map, Option.map_eq_some_iff] at hd
    obtain ⟨⟨p1, p2⟩, hp, rfl⟩ := hd
    rw [List.getElem?_zipIdx, Option.map_eq_some_iff] at hp
    obtain ⟨q, hq, e3⟩ := hp
    rw [List.getElem?_map, Option.map_eq_some_iff] at hq
    obtain ⟨r, hr, rfl⟩ := hq
    obtain ⟨hr1, hr2⟩ := List.getElem?_eq_some_iff.mp hr
    simp at hr1 hr2 e3
    subst hr2
    obtain ⟨rfl, rfl⟩ := e3
    have hlen := V.len
    have hpl := W.len
    have hdiv : ∀ y, okDiv y 2 = true := fun y => okDiv_of (by omega) (by omega)
    have hgk : ∀ k ∈ List.range gs.length, atI (gs.map encG) (k : Int) = some (.tuple [.int (at0 gs k).1, .int (at0 gs k).2.1, .int (at0 gs k).2.2]) := fun k hk => by
      rw [atI_nat', g_get (List.mem_range.mp hk)]
      rfl
    have hpk : ∀ k ∈ List.range gs.length, atI (ps.map fun k : Nat => PyData.int (k : Int)) (k : Int) = some (.int (ps.getD k 0 : Nat)) := fun k hk => by
      rw [atI_nat', ns_get (by rw [hpl]; exact List.mem_range.mp hk)]
    have hA := lc_typed (g := dName 12) (t := dTest (dOp fEq (dOp fDivB (dOp fIxAny (dOpN fIxAny 3 (dVw 12)) (dC (.int 0))) (dC (.int 2))) (dOpN fDivB 2 (dC (.int 2))))) (e := dVar 12) (vs := [12]) (ρ := [b0, a1, .im (.int (night : Int)), .im (.list (gs.map encG)), .im (.int (most : Int)), x5, .im (.tuple [.str "wide", .int (most : Int), eNs ps, t3]), .im (.list ((List.range most).map fun r => encON (own gs ps (night : Int) gs.length r))), .im (.int (i : Int)), .im (encON (own gs ps (night : Int) gs.length i)), y10, y11, .un, .un]) (enc := fun k : Nat => PyData.int (k : Int)) (fun k => decide ((at0 gs k).1 / 2 = (night : Int) / 2)) (fun k : Nat => PyData.int (k : Int)) (List.range gs.length) [] (by simp; omega) (fun k hk => ⟨_, rfl, by
        simp [hgk k hk, hdiv], fun _ => by simp, by simp⟩)
    obtain ⟨tl, htl⟩ : ∃ tl, tl = (List.range gs.length).filter fun k => decide ((at0 gs k).1 / 2 = (night : Int) / 2) := ⟨_, rfl⟩
    rw [← htl] at hA
    have htm : ∀ k ∈ tl, k ∈ List.range gs.length := fun k hk => by
      rw [htl] at hk
      exact (List.mem_filter.mp hk).1
    have htll : tl.length ≤ 100 := by
      have := List.length_filter_le (fun k => decide ((at0 gs k).1 / 2 = (night : Int) / 2)) (List.range gs.length)
      rw [← htl, List.length_range] at this
      omega
    have hB := lc_typed (g := dName 12) (t := dAnd (dTest (dOp fLe (dOp fIxAny (dOpN fIxAny 6 (dC (.int 2))) (dVw 12)) (dVw 8))) (dTest (dOpN fLt 8 (dOp fAddAny (dOp fIxAny (dOpN fIxAny 6 (dC (.int 2))) (dVw 12)) (dOp fIxAny (dOpN fIxAny 3 (dVw 12)) (dC (.int 2))))))) (e := dVar 12) (vs := [12]) (ρ := [b0, a1, .im (.int (night : Int)), .im (.list (gs.map encG)), .im (.int (most : Int)), x5, .im (.tuple [.str "wide", .int (most : Int), eNs ps, t3]), .im (.list ((List.range most).map fun r => encON (own gs ps (night : Int) gs.length r))), .im (.int (i : Int)), .im (encON (own gs ps (night : Int) gs.length i)), .im (.list (tl.map fun k : Nat => .int (k : Int))), y11, .un, .un]) (enc := fun k : Nat => PyData.int (k : Int)) (fun k => decide (ps.getD k 0 ≤ i) && decide ((i : Int) < (ps.getD k 0 : Nat) + (at0 gs k).2.2)) (fun k : Nat => PyData.int (k : Int)) tl [] (by simp; omega) (fun k hk => ⟨_, rfl, by
        have a := hgk k (htm k hk)
        have c := hpk k (htm k hk)
        generalize ps.getD k 0 = p at c ⊢
        by_cases q1 : p ≤ i
        · simp [a, c, eNs, q1]
        · simp [a, c, eNs, q1], fun _ => by simp, by simp⟩)
    have hmine : tl.filter (fun k => decide (ps.getD k 0 ≤ i) && decide ((i : Int) < (ps.getD k 0 : Nat) + (at0 gs k).2.2)) = (own gs ps (night : Int) gs.length i).toList := by
      rw [← own_filter gs.length fun j hj k hk h1 h2 => way_cov V.ok W hj hk h1 h2, htl, List.filter_filter]
      refine List.filter_congr fun k hk => ?_
      have hk := List.mem_range.mp hk
      obtain ⟨n0, n1, n2⟩ := V.ev _ (at0_mem hk)
      have hok := V.ok _ (at0_mem hk)
      have hm1 := hok.m1
      unfold cov
      rw [Bool.eq_iff_iff]
      simp only [Bool.and_eq_true, decide_eq_true_eq]
      omega
    rw [hmine] at hB
    cases ho : own gs ps (night : Int) gs.length i with
    | none =>
      rw [ho] at hA hB
      simp only [Option.toList_none, List.map_nil, encON] at hA hB
      simp [encON, inRng_nat (show gs.length ≤ 1000000 by omega), rng_eq, hA, hB]
    | some k =>
      rw [ho] at hA hB
      simp only [Option.toList_some, List.map_cons, List.map_nil, encON] at hA hB
      have hne : eqD (.list [.int (k : Int)]) (.list []) = some false := by
        rw [eqD_nil ((shp_list (k := 1) (by intro d hd; simp at hd; subst hd; exact shp_int _)).up (by omega))]
        rfl
      simp [encON, inRng_nat (show gs.length ≤ 1000000 by omega), rng_eq, hA, hB, hne])
  obtain ⟨y8, y9, y10, y11, y12, rfl⟩ := h2
  exact ⟨_, _, _, _, _, h1⟩
theorem wides_eq {bag : List PyData} (hb0 : BagOk bag) : ∃ bag', m__law_wides_told [.ow (.lst bag)] = some (.im (.bool true), [.ow (.lst bag')]) ∧ BagOk bag' := by
  obtain ⟨v, bag1, e1, v1, hb1⟩ := take_nat hb0 (many := 4) (by omega) (by omega)
  obtain ⟨N, hN⟩ : ∃ N : Nat, N = 1 + v := ⟨_, rfl⟩
  have bN := inRng_nat (show N ≤ 1000000 by omega)
  simp only [m__law_wides_told, e_dFn, d__law_wides_told]
  simp [e1, show (1 : Int) + (v : Int) = (N : Int) by omega, bN, rng_eq]
  generalize e : dLoop _ _ _ _ = L
  have e' := nights_loop hb1 (n := N) (by omega) L (by rw [← e])
  obtain ⟨ns, bag2, x, rfl, hb2, hl, hl1, hm1⟩ := e'
  have NT : Nts ns := ⟨by omega, by omega, hl1, hm1⟩
  clear e
  have hsums := lc_all (g := dName 5) (e := dUn fSum (dVw 5)) (vs := [5]) (ρ := [.ow (.lst bag2), .im (.list (ns.map eNs)), x, .un, .un, .un, .un, .un, .un, .un, .un, .un, .un, .un]) (enc := eNs) (fun l => .int ((l.sum : Nat) : Int)) ns [] (by simp; omega) (fun l hl => ⟨_, rfl, by simp [sum_ns], by simp⟩)
  obtain ⟨most, hmm, hmx, hmax⟩ := lmax_nat (l := ns.map List.sum) (by
    intro q
    have := NT.n1
    rw [List.map_eq_nil_iff] at q
    rw [q] at this
    simp at this)
  have hmaxd : fMaxA (.list (ns.map fun l => PyData.int ((l.sum : Nat) : Int))) = some (.int (most : Int)) := by
    have : (ns.map fun l => PyData.int ((l.sum : Nat) : Int)) = ((ns.map List.sum).map fun (k : Nat) => (k : Int)).map .int := by simp [Function.comp_def]
    rw [this, f_maxl, if_pos (by simp; have := NT.n1; omega), hmax]
  simp [hsums, hmaxd]
  generalize e : dLoop _ _ _ _ = L
  obtain ⟨ρ', h1, h2⟩ := at_loop e (fun i ρ => ∃ x2 x5, ρ = [.ow (.lst bag2), .im (.list (ns.map eNs)), x2, .ow (.lst ((gsOf (ns.take i)).map encG)), .im (.int (most : Int)), x5, .un, .un, .un, .un, .un, .un, .un, .un]) ⟨x, .un, by simp [gsOf]⟩ (by
    rintro i d _ hd ⟨x2, x5, rfl⟩
    rw [List.getElem?_map, Option.map_eq_some_iff] at hd
    obtain ⟨⟨p1, p2⟩, hp, rfl⟩ := hd
    rw [List.getElem?_zipIdx, Option.map_eq_some_iff] at hp
    obtain ⟨q, hq, e3⟩ := hp
    rw [List.getElem?_map, Option.map_eq_some_iff] at hq
    obtain ⟨l, hlq, rfl⟩ := hq
    simp at e3
    obtain ⟨rfl, rfl⟩ := e3
    have hi : i < ns.length := (List.getElem?_eq_some_iff.mp hlq).1
    have hlm := List.mem_of_getElem? hlq
    have hl3 := hl1 l hlm
    have hmul : ∀ y, okMul 2 y = true := fun y => okMul_l (by omega) (by omega)
    have hlc := lc_all (g := dName 13) (e := dTup (dCons (dOp fMulAny (dC (.int 2)) (dVw 2)) (dCons (dOp fAddAny (dOp fMulAny (dC (.int 2)) (dVw 2)) (dC (.int 2))) (dCons (dVar 13) dNil)))) (vs := [13]) (ρ := [.ow (.lst bag2), .im (.list (ns.map eNs)), .im (.int (i : Int)), .ow (.lst ((gsOf (ns.take i)).map encG)), .im (.int (most : Int)), .im (eNs l), .un, .un, .un, .un, .un, .un, .un, .un]) (enc := fun m : Nat => PyData.int (m : Int)) (fun m : Nat => encG (2 * (i : Int), 2 * (i : Int) + 2, (m : Int))) l [] (by simp; omega) (fun m hm => ⟨_, rfl, by simp [encG, hmul], by simp⟩)
    have htk : gsOf (ns.take (i + 1)) = gsOf (ns.take i) ++ nightG i l := by
      rw [List.take_succ_eq_append_getElem hi, gsOf_snoc]
      congr 1
      rw [List.length_take, Nat.min_eq_left (by omega)]
      congr 1
      rw [List.getElem?_eq_getElem hi] at hlq
      exact Option.some.inj hlq
    have hgl := gsOf_len (ns := ns.take i) i (by simp; omega) (fun l hl => (hl1 l (List.mem_of_mem_take hl)).2)
    have hz : (gsOf (ns.take i)).length + l.length ≤ sizeLine := le_line (by omega)
    simp only [eNs] at hlc
    simp [eNs] at hlc
    simp [eNs, hlc, hz, htk, nightG, Function.comp_def])
  have hln : (List.map (fun p : PyData × Nat => PyData.tuple [.int (p.2 : Int), p.1]) (ns.map eNs).zipIdx).length = ns.length := by simp
  subst h1
  obtain ⟨x2, x5, rfl⟩ := h2
  rw [hln, List.take_length]
  have hgl := gsOf_len (ns := ns) _ rfl fun l hl => (hl1 l hl).2
  obtain ⟨l', bag3, e3, hp3, hb3⟩ := mixed_eq hb2 (l := (gsOf ns).map encG) (by simp; omega)
  obtain ⟨gs, rfl, hperm⟩ := perm_dec decG_enc hp3
  have V := evn_of NT hperm
  have ht : ∀ j, tn j gs = (ns.getD j []).sum := fun j => by rw [tn_perm hperm, tn_gsOf j _ ns rfl]
  have ht1 : ∀ j, tn j gs ≤ most := fun j => by
    rw [ht]
    by_cases hj : j < ns.length
    · refine hmx _ (List.mem_map.mpr ⟨ns.getD j [], ?_, rfl⟩)
      rw [List.getD_eq_getElem?_getD, List.getElem?_eq_getElem hj]
      exact List.getElem_mem _
    · rw [List.getD_eq_getElem?_getD, List.getElem?_eq_none (by omega)]
      exact Nat.zero_le _
  have ht2 : ∃ j, tn j gs = most := by
    obtain ⟨l, hlm, e4⟩ := List.mem_map.mp hmm
    obtain ⟨j, hj, e5⟩ := List.mem_iff_getElem.mp hlm
    refine ⟨j, ?_⟩
    rw [ht, List.getD_eq_getElem?_getD, List.getElem?_eq_getElem hj, e5]
    exact e4
  have hmost1 : 1 ≤ most := by
    obtain ⟨l, hlm, e4⟩ := List.mem_map.mp hmm
    have := sum_ge (hl1 l hlm).1 fun m hm => (hm1 l hlm m hm).1
    omega
  obtain ⟨d, hd⟩ := Classical.axiomOfChoice (r := fun w d => 1 ≤ w → w ≤ 6 → x_laid [.im (eIs (List.replicate w 0)), .im (.list (gs.map encG))] = none ∧
    m_laid [.im (eIs (List.replicate w 0)), .im (.list (gs.map encG))] = some (.im (.tuple [.str (if most ≤ w then "laid" else "none"), d]), [.un, .un]) ∧
    (most ≤ w → ∃ ps wv, d = eNs ps ∧ Way (List.replicate w 0) gs ps wv) ∧
    (w < most → ∃ init : List PyData, d = .list (init ++ [.list []]) ∧ m_is_none [.im (eIs (List.replicate w 0)), .im (.list (gs.map encG)), .im d] = some (.im (.bool true), [.un, .un, .un]))) (fun w => by
    by_cases hw : 1 ≤ w ∧ w ≤ 6
    · obtain ⟨d, hd⟩ := wide_laid V hw.1 hw.2 ht1 ht2
      exact ⟨d, fun _ _ => hd⟩
    · exact ⟨.none, fun a c => (hw ⟨a, c⟩).elim⟩)
  have hleast := least_eq V.ok V.ne V.len hmost1 (d := d) fun w a c => ⟨(hd w a c).1, (hd w a c).2.1⟩
  simp [e3, hleast]
  by_cases hbig : most ≤ 6
  · have hb' : ¬ (6 : Int) < (most : Int) := by omega
    obtain ⟨_, _, hw3, _⟩ := hd most hmost1 hbig
    obtain ⟨ps, wv, hps, W⟩ := hw3 (Nat.le_refl _)
    have hself : eqD (.tuple [.str "wide", .int (most : Int)]) (.tuple [.str "wide", .int (most : Int)]) = some true :=
      eqD_self ((shp_tup (k := 1) (by
        intro d hd
        simp at hd
        rcases hd with rfl | rfl
        · exact shp_wide_s
        · exact shp_int _)).up (by omega))
    have hrepm := rep_eq (.int 0) (show most ≤ 1000000 by omega)
    rw [show (PyData.list (List.replicate most (.int 0))) = eIs (List.replicate most 0) by simp [eIs]] at hrepm
    have hlaid := way_is_laid V.ok W V.len
    have hT3 : (most = 1 → (if most = 1 then PyData.list [] else d (most - 1)) = .list []) ∧ (1 < most → m_is_none [.im (eIs (List.replicate (most - 1) 0)), .im (.list (gs.map encG)), .im (if most = 1 then PyData.list [] else d (most - 1))] = some (.im (.bool true), [.un, .un, .un])) := by
      refine ⟨fun h => if_pos h, fun h => ?_⟩
      rw [if_neg (by omega)]
      obtain ⟨_, _, _, h6⟩ := hd (most - 1) (by omega) (by omega)
      obtain ⟨init, _, h8⟩ := h6 (by omega)
      exact h8
    have hrepm1 : 1 < most → fMulAny (.list [.int 0]) (.int ((most : Int) - 1)) = some (eIs (List.replicate (most - 1) 0)) := fun h => by
      have := rep_eq (.int 0) (show most - 1 ≤ 1000000 by omega)
      rw [show (PyData.list (List.replicate (most - 1) (.int 0))) = eIs (List.replicate (most - 1) 0) by simp [eIs], show ((most - 1 : Nat) : Int) = (most : Int) - 1 by omega] at this
      exact this
    rw [hps]
    generalize (if most = 1 then PyData.list [] else d (most - 1)) = T3 at hT3
    obtain ⟨hT3a, hT3b⟩ := hT3
    have cut4 : ∀ x y z w : PyData, cutD [x, y, z, w] none (some 2) = [x, y] := fun x y z w => cut2t x y [z, w]
    by_cases h1 : most = 1
    · have h1' := eq_true h1
      have h1i : ((most : Int) = 1) = True := eq_true (by omega)
      have h2i : ¬ (1 : Int) < (most : Int) := by omega
      have h2n : ¬ 1 < most := by omega
      have hT3e : eqD T3 (.list []) = some true := by rw [hT3a h1]; simp
      simp [hbig, hb', hself, hrepm, hlaid, alike_b, h1', h1i, h2i, h2n, hT3e]
      obtain ⟨night, bag4, e5, n1, hb4⟩ := take_nat hb3 (many := 2 * (ns.length : Int) + 2) (by omega) (by omega)
      refine ⟨bag4, ?_, hb4⟩
      have hrow := row_at_eq (ps := ps) (night := (night : Int)) V.ok V.len W.len hbig (fun k hk => by
        have := (way_fit0 V.ok W hk).1
        rw [List.length_replicate] at this
        exact this)
      have hmul : ∀ y, okMul 2 y = true := fun y => okMul_l (by omega) (by omega)
      simp [hmul, e5, hrow]
      generalize e9 : dLoop _ _ _ _ = L9
      obtain ⟨y8, y9, y10, y11, y12, rfl⟩ := check_loop V W hbig L9 e9.symm
      have hln := least_nil
      have hws : eqD (.tuple [.str "wide", .int 0, .list [], .list []]) (.tuple [.str "wide", .int 0, .list [], .list []]) = some true :=
        eqD_self ((shp_tup (k := 1) (by
          intro d hd
          simp at hd
          rcases hd with rfl | rfl | rfl
          · exact shp_wide_s
          · exact shp_int _
          · exact shp_list (k := 0) (by simp))).up (by omega))
      simp [hln, hws, maskO]
    · have h1' := eq_false h1
      have h1i : ((most : Int) = 1) = False := eq_false (by omega)
      have h2i : (1 : Int) < (most : Int) := by omega
      have h2n : 1 < most := by omega
      have hT3c := hT3b h2n
      have hr1 := hrepm1 h2n
      simp [hbig, hb', hself, hrepm, hlaid, alike_b, h1', h1i, h2i, h2n, hr1, hT3c]
      obtain ⟨night, bag4, e5, n1, hb4⟩ := take_nat hb3 (many := 2 * (ns.length : Int) + 2) (by omega) (by omega)
      refine ⟨bag4, ?_, hb4⟩
      have hrow := row_at_eq (ps := ps) (night := (night : Int)) V.ok V.len W.len hbig (fun k hk => by
        have := (way_fit0 V.ok W hk).1
        rw [List.length_replicate] at this
        exact this)
      have hmul : ∀ y, okMul 2 y = true := fun y => okMul_l (by omega) (by omega)
      simp [hmul, e5, hrow]
      generalize e9 : dLoop _ _ _ _ = L9
      obtain ⟨y8, y9, y10, y11, y12, rfl⟩ := check_loop V W hbig L9 e9.symm
      have hln := least_nil
      have hws : eqD (.tuple [.str "wide", .int 0, .list [], .list []]) (.tuple [.str "wide", .int 0, .list [], .list []]) = some true :=
        eqD_self ((shp_tup (k := 1) (by
          intro d hd
          simp at hd
          rcases hd with rfl | rfl | rfl
          · exact shp_wide_s
          · exact shp_int _
          · exact shp_list (k := 0) (by simp))).up (by omega))
      simp [hln, hws, maskO]
  · have hb' : (6 : Int) < (most : Int) := by omega
    obtain ⟨_, _, _, h6⟩ := hd 6 (by omega) (by omega)
    obtain ⟨init, h7, _⟩ := h6 (by omega)
    refine ⟨bag3, ?_, hb3⟩
    have hat := DL.atI_last init (.list [])
    simp [hbig, hb', h7, hat, maskO]
end K05

set_option linter.all false
set_option maxRecDepth 100000
set_option maxHeartbeats 2000000
namespace K05
open PySem L2 DL
theorem law_true (ns : List Int) (h : ns.length ≤ 63) : ∃ as, m_law [.scr ns] = some (.im (.bool true), as) := by
  obtain ⟨bag, eb, hb⟩ := bag_eq h
  simp only [m_law, dFn_nil, d_law]
  have b3 : inRng 3 = true := inRng_of (by omega) (by omega)
  simp [eb, b3]
  generalize e : dLoop _ _ _ _ = L
  obtain ⟨ρ', h1, h2⟩ := at_loop e (fun i ρ => ∃ bag x, ρ = [.scr ns, .ow (.lst bag), x] ∧ BagOk bag) ⟨bag, .un, rfl, hb⟩ (by
    rintro i d _ hd ⟨bag, x, rfl, hb⟩
    rw [rng_eq, List.getElem?_map, Option.map_eq_some_iff] at hd
    obtain ⟨k, hk, rfl⟩ := hd
    obtain ⟨b1, e1, h1⟩ := singles_eq hb
    obtain ⟨b2, e2, h2⟩ := apart_eq h1
    obtain ⟨b3, e3, h3⟩ := wides_eq h2
    simp [e1, e2, e3, h3])
  subst h1
  obtain ⟨bag, x, rfl, hb⟩ := h2
  have hl := (laid_nil (held := [0, 400])).1
  rw [show eIs [0, 400] = .list [.int 0, .int 400] from rfl] at hl
  have hsh : Shp 64 (.tuple [.str "laid", .list []]) := (shp_tup (k := 1) (by
    intro d hd
    simp at hd
    rcases hd with rfl | rfl
    · exact shp_laid_s
    · exact shp_list (k := 0) (by simp))).up (by omega)
  have hq := eqD_self hsh
  have hs : shownOk (.tuple [.str "laid", .list []]) = true := by decide +kernel
  have hr := f_reprX hs
  generalize (PyData.tuple [.str "laid", .list []]).shown = z at hr
  simp [hl, m__law_alike, dFn_nil, d__law_alike, hq, hr]
end K05

set_option Elab.async false
set_option linter.all false
set_option maxRecDepth 100000
set_option maxHeartbeats 4000000

namespace K05
open PySem L2 Evl DL
section
variable {P : Program} {w : World} {K : PySem.W.Frag} {mg : Str → Option Value} {base : Heap} {cl : Nat → Addr}
theorem fn_all (T : Txt mg) {C0 : Addr} (B0 : BaseC K C0) (h0 : mg "InnError" = some (.ref C0)) (R_NoWish : XcRaw K mg "NoWish" (cl 6) "at" si_NoWish "NoWish.__init__") (R_TooMany : XcRaw K mg "TooMany" (cl 13) "number" si_TooMany "TooMany.__init__") (xf_TooMany : XfC K (cl 13)) (em_TooMany : ∀ c, c ∈ [13] → PySem.W.exmOne K (.ref (cl c)) (.ref (cl 13)) = some ((fun c => decide (c = 13)) c)) (D_is_whole : DefAt K mg "is_whole" s_is_whole) (D_holds : DefAt K mg "holds" s_holds) (D_shared : DefAt K mg "shared" s_shared) (D_in_turn : DefAt K mg "in_turn" s_in_turn) (D_row_behind : DefAt K mg "row_behind" s_row_behind) (D__law_bag : DefAt K mg "_law_bag" s__law_bag) (D__law_take : DefAt K mg "_law_take" s__law_take) (D__law_alike : DefAt K mg "_law_alike" s__law_alike) (D__law_lots : DefAt K mg "_law_lots" s__law_lots) (D_is_stretch : DefAt K mg "is_stretch" s_is_stretch) (D_meets : DefAt K mg "meets" s_meets) (D_rows_behind : DefAt K mg "rows_behind" s_rows_behind) (D_step_to : DefAt K mg "step_to" s_step_to) (D_is_place : DefAt K mg "is_place" s_is_place) (D_is_rows : DefAt K mg "is_rows" s_is_rows) (D_row_at : DefAt K mg "row_at" s_row_at) (D__law_some : DefAt K mg "_law_some" s__law_some) (D__law_mixed : DefAt K mg "_law_mixed" s__law_mixed) (D__law_lists : DefAt K mg "_law_lists" s__law_lists) (D_is_group : DefAt K mg "is_group" s_is_group) (D_lists_of : DefAt K mg "lists_of" s_lists_of) (D_places_by : DefAt K mg "places_by" s_places_by) (D_apart : DefAt K mg "apart" s_apart) (D_check_groups : DefAt K mg "check_groups" s_check_groups) (D_laid : DefAt K mg "laid" s_laid) (D_is_laid : DefAt K mg "is_laid" s_is_laid) (D_is_none : DefAt K mg "is_none" s_is_none) (D_least_wide : DefAt K mg "least_wide" s_least_wide) (D__law_singles_told : DefAt K mg "_law_singles_told" s__law_singles_told) (D__law_apart_told : DefAt K mg "_law_apart_told" s__law_apart_told) (D__law_wides_told : DefAt K mg "_law_wides_told" s__law_wides_told) (D_law : DefAt K mg "law" s_law) : FnAt P w K mg base 8 "law" ["script"] [] (toSp cl K 1 m_law) := by
  have x_NoWish := xc_NoWish (P := P) (w := w) (base := base) R_NoWish B0 h0
  have x_TooMany := xc_TooMany (P := P) (w := w) (base := base) R_TooMany B0 h0
  have f_is_whole := fn_is_whole (P := P) (w := w) (base := base) (cl := cl) D_is_whole T 
  have f_holds := fn_holds (P := P) (w := w) (base := base) (cl := cl) D_holds T 
  have f_shared := fn_shared (P := P) (w := w) (base := base) (cl := cl) D_shared T 
  have f_in_turn := fn_in_turn (P := P) (w := w) (base := base) (cl := cl) D_in_turn T 
  have f_row_behind := fn_row_behind (P := P) (w := w) (base := base) (cl := cl) D_row_behind T 
  have f__law_bag := fn__law_bag (P := P) (w := w) (base := base) (cl := cl) D__law_bag T 
  have f__law_take := fn__law_take (P := P) (w := w) (base := base) (cl := cl) D__law_take T 
  have f__law_alike := fn__law_alike (P := P) (w := w) (base := base) (cl := cl) D__law_alike T 
  have f__law_lots := fn__law_lots (P := P) (w := w) (base := base) (cl := cl) D__law_lots T 
  have f_is_stretch := fn_is_stretch (P := P) (w := w) (base := base) (cl := cl) D_is_stretch T f_is_whole
  have f_meets := fn_meets (P := P) (w := w) (base := base) (cl := cl) D_meets T f_shared
  have f_rows_behind := fn_rows_behind (P := P) (w := w) (base := base) (cl := cl) D_rows_behind T f_row_behind
  have f_step_to := fn_step_to (P := P) (w := w) (base := base) (cl := cl) D_step_to T f_row_behind
  have f_is_place := fn_is_place (P := P) (w := w) (base := base) (cl := cl) D_is_place T f_is_whole
  have f_is_rows := fn_is_rows (P := P) (w := w) (base := base) (cl := cl) D_is_rows T f_is_whole
  have f_row_at := fn_row_at (P := P) (w := w) (base := base) (cl := cl) D_row_at T f_holds
  have f__law_some := fn__law_some (P := P) (w := w) (base := base) (cl := cl) D__law_some T f__law_take
  have f__law_mixed := fn__law_mixed (P := P) (w := w) (base := base) (cl := cl) D__law_mixed T f__law_take
  have f__law_lists := fn__law_lists (P := P) (w := w) (base := base) (cl := cl) D__law_lists T f__law_lots
  have f_is_group := fn_is_group (P := P) (w := w) (base := base) (cl := cl) D_is_group T f_is_stretch f_is_whole
  have f_lists_of := fn_lists_of (P := P) (w := w) (base := base) (cl := cl) D_lists_of T x_TooMany f_in_turn f_rows_behind
  have f_places_by := fn_places_by (P := P) (w := w) (base := base) (cl := cl) D_places_by T f_in_turn f_step_to
  have f_apart := fn_apart (P := P) (w := w) (base := base) (cl := cl) D_apart T f_meets
  have f_check_groups := fn_check_groups (P := P) (w := w) (base := base) (cl := cl) D_check_groups T x_NoWish f_is_group
  have f_laid := fn_laid (P := P) (w := w) (base := base) (cl := cl) D_laid T f_check_groups f_lists_of f_places_by
  have f_is_laid := fn_is_laid (P := P) (w := w) (base := base) (cl := cl) D_is_laid T f_apart f_check_groups f_is_place
  have f_is_none := fn_is_none (P := P) (w := w) (base := base) (cl := cl) D_is_none T f_check_groups f_in_turn f_is_rows f_rows_behind
  have f_least_wide := fn_least_wide (P := P) (w := w) (base := base) (cl := cl) D_least_wide T f_check_groups f_laid
  have f__law_singles_told := fn__law_singles_told (P := P) (w := w) (base := base) (cl := cl) D__law_singles_told T f__law_alike f__law_lists f__law_mixed f__law_some f__law_take f_is_laid f_is_none f_laid
  have f__law_apart_told := fn__law_apart_told (P := P) (w := w) (base := base) (cl := cl) D__law_apart_told T x_TooMany xf_TooMany em_TooMany f__law_take f_laid
  have f__law_wides_told := fn__law_wides_told (P := P) (w := w) (base := base) (cl := cl) D__law_wides_told T f__law_alike f__law_mixed f__law_take f_is_laid f_is_none f_least_wide f_row_at
  have f_law := fn_law (P := P) (w := w) (base := base) (cl := cl) D_law T f__law_alike f__law_apart_told f__law_bag f__law_singles_told f__law_wides_told f_laid
  exact f_law
end
theorem walk {l : PySem.W.OpenLaw} {q : Program} {loose : List Str} {XP : (Str → Option Value) → Heap → Prop} {YP : World → Heap → Prop} {d : DefRec} {K : Params → PySem.W.Frag} (hn : l.most = some 63) (hdf : d.params.defaults = [])
    (hY : ∀ (w : World) (h : Heap), YP w h → (K w.params).In h)
    (F : ∀ (w : World) (mg : Str → Option Value) (fa : Addr) (h : Heap), (K w.params).In h → h.Ns mainGlobals mg → mg d.name = some (.ref fa) →
      ∃ fd : FuncData, (∀ (s : Shared) (u : Value), BindsTo s fd ⟨[u], []⟩ [("script", u)]) ∧ ∀ base : Heap, (K w.params).In base → base.Ns mainGlobals mg → FnOkG l.prog w (K w.params) mg base CX0 8 fa fd ["script"] (spLaw (K w.params))) :
    PySem.W.WalkO q loose XP YP l.row.toRowW d [] (fun f vs => PySem.call f vs) :=
  DL.walk_g (n := 63) (k := 8) (x := "script") (CX := fun _ => CX0) (sp := fun w => spLaw (K w.params)) hn (by decide) hdf ⟨⟨rfl, by decide, by decide⟩, rfl⟩ hY F (fun _ _ a ns hl hS => ⟨a, ns, rfl, hS, hl, fun _ => rfl⟩) fun _ _ _ _ _ z => z
def clF (C_NoWish C_TooMany : Addr) : Nat → Addr := fun n => if n = 6 then C_NoWish else if n = 13 then C_TooMany else 0
theorem law_end {P : Program} {w : World} {K : PySem.W.Frag} {mg : Str → Option Value} {fa : Addr} {C_NoWish C_TooMany : Addr} (hfa : mg "law" = some (.ref fa)) (T : Txt mg) {C0 : Addr} (B0 : BaseC K C0) (h0 : mg "InnError" = some (.ref C0)) (R_NoWish : XcRaw K mg "NoWish" C_NoWish "at" si_NoWish "NoWish.__init__") (R_TooMany : XcRaw K mg "TooMany" C_TooMany "number" si_TooMany "TooMany.__init__") (xf_TooMany : XfC K C_TooMany) (es_TooMany : PySem.W.exmOne K (.ref C_TooMany) (.ref C_TooMany) = some true) (D_is_whole : DefAt K mg "is_whole" s_is_whole) (D_holds : DefAt K mg "holds" s_holds) (D_shared : DefAt K mg "shared" s_shared) (D_in_turn : DefAt K mg "in_turn" s_in_turn) (D_row_behind : DefAt K mg "row_behind" s_row_behind) (D__law_bag : DefAt K mg "_law_bag" s__law_bag) (D__law_take : DefAt K mg "_law_take" s__law_take) (D__law_alike : DefAt K mg "_law_alike" s__law_alike) (D__law_lots : DefAt K mg "_law_lots" s__law_lots) (D_is_stretch : DefAt K mg "is_stretch" s_is_stretch) (D_meets : DefAt K mg "meets" s_meets) (D_rows_behind : DefAt K mg "rows_behind" s_rows_behind) (D_step_to : DefAt K mg "step_to" s_step_to) (D_is_place : DefAt K mg "is_place" s_is_place) (D_is_rows : DefAt K mg "is_rows" s_is_rows) (D_row_at : DefAt K mg "row_at" s_row_at) (D__law_some : DefAt K mg "_law_some" s__law_some) (D__law_mixed : DefAt K mg "_law_mixed" s__law_mixed) (D__law_lists : DefAt K mg "_law_lists" s__law_lists) (D_is_group : DefAt K mg "is_group" s_is_group) (D_lists_of : DefAt K mg "lists_of" s_lists_of) (D_places_by : DefAt K mg "places_by" s_places_by) (D_apart : DefAt K mg "apart" s_apart) (D_check_groups : DefAt K mg "check_groups" s_check_groups) (D_laid : DefAt K mg "laid" s_laid) (D_is_laid : DefAt K mg "is_laid" s_is_laid) (D_is_none : DefAt K mg "is_none" s_is_none) (D_least_wide : DefAt K mg "least_wide" s_least_wide) (D__law_singles_told : DefAt K mg "_law_singles_told" s__law_singles_told) (D__law_apart_told : DefAt K mg "_law_apart_told" s__law_apart_told) (D__law_wides_told : DefAt K mg "_law_wides_told" s__law_wides_told) (D_law : DefAt K mg "law" s_law)
    (hm : ∀ ns : List Int, ns.length ≤ 63 → ∃ as, m_law [.scr ns] = some (.im (.bool true), as)) :
    ∃ fd : FuncData, (∀ (s : Shared) (u : Value), BindsTo s fd ⟨[u], []⟩ [("script", u)]) ∧ ∀ base : Heap, K.In base → base.Ns mainGlobals mg → FnOkG P w K mg base CX0 8 fa fd ["script"] (spLaw K) := by
  obtain ⟨f, fd, F, hf⟩ := id D_law
  rw [hfa] at hf
  cases hf
  obtain ⟨oc, od, kV, doc, pm, an, cdv, ct, osl, e, lk, hcd⟩ := F.ex
  refine ⟨fd, fun s u => by subst e; exact .of_eq rfl, fun base _ _ => ?_⟩
  obtain ⟨f', fd', h1, h2, o, h3, h4⟩ := law_ok (fn_all (P := P) (w := w) (base := base) (cl := (clF C_NoWish C_TooMany)) T B0 h0 R_NoWish R_TooMany xf_TooMany (em_of (cl := (clF C_NoWish C_TooMany)) (c0 := 13) es_TooMany) D_is_whole D_holds D_shared D_in_turn D_row_behind D__law_bag D__law_take D__law_alike D__law_lots D_is_stretch D_meets D_rows_behind D_step_to D_is_place D_is_rows D_row_at D__law_some D__law_mixed D__law_lists D_is_group D_lists_of D_places_by D_apart D_check_groups D_laid D_is_laid D_is_none D_least_wide D__law_singles_told D__law_apart_told D__law_wides_told D_law) hm
  rw [hfa] at h2
  cases h2
  rw [lk] at h3
  cases h3
  cases h4
  exact h1
end K05
open PySem PySem.W PyProof.Rows in
set_option maxRecDepth 100000 in
set_option maxHeartbeats 0 in
theorem PySem.Challenge.cw_nightbook_k05_whole_groups_of_like_ones_holds : PySem.Challenge.rw_nightbook_k05_whole_groups_of_like_ones.Holds := by
  w_on; o_law; k_head; (case hw => w_witness2)
  k_fill
  refine K05.walk (l := PySem.Challenge.rw_nightbook_k05_whole_groups_of_like_ones) rfl rfl (fun w h Y => PySem.W.kIn_of Y) ?F
  case F =>
    intro w mg fa h KX G hmg
    refine' K05.law_end hmg ⟨?T_abs, ?T_bool, ?T_dict, ?T_enumerate, ?T_int, ?T_isinstance, ?T_len, ?T_list, ?T_max, ?T_min, ?T_range, ?T_repr, ?T_sorted, ?T_sum, ?T_tuple, ?T_g_MOST_ROOMS, ?T_g_MOST_ROWS, ?T_g_NIGHTS⟩ ⟨?gx, ?rd, ?fi⟩ (PySem.W.mg_of KX G ?aI) (DL.xcRaw_of (C0 := _) KX G ?xa_NoWish ?xL_NoWish ?xs_NoWish ?xe_NoWish ?xt_NoWish ?xk_NoWish ?xn_NoWish ?xi_NoWish ?xj_NoWish ?xl_NoWish ?xc_NoWish ?xf_NoWish) (DL.xcRaw_of (C0 := _) KX G ?xa_TooMany ?xL_TooMany ?xs_TooMany ?xe_TooMany ?xt_TooMany ?xk_TooMany ?xn_TooMany ?xi_TooMany ?xj_TooMany ?xl_TooMany ?xc_TooMany ?xf_TooMany) ⟨?fa_TooMany, ?fg_TooMany, ?fe_TooMany, ?fh_TooMany⟩ (DL.em_one ?me_TooMany ?mh_TooMany ?mt_TooMany ?ms_TooMany) (DL.defAt_of KX G ?a_is_whole ?l_is_whole ?c_is_whole ?k_is_whole) (DL.defAt_of KX G ?a_holds ?l_holds ?c_holds ?k_holds) (DL.defAt_of KX G ?a_shared ?l_shared ?c_shared ?k_shared) (DL.defAt_of KX G ?a_in_turn ?l_in_turn ?c_in_turn ?k_in_turn) (DL.defAt_of KX G ?a_row_behind ?l_row_behind ?c_row_behind ?k_row_behind) (DL.defAt_of KX G ?a__law_bag ?l__law_bag ?c__law_bag ?k__law_bag) (DL.defAt_of KX G ?a__law_take ?l__law_take ?c__law_take ?k__law_take) (DL.defAt_of KX G ?a__law_alike ?l__law_alike ?c__law_alike ?k__law_alike) (DL.defAt_of KX G ?a__law_lots ?l__law_lots ?c__law_lots ?k__law_lots) (DL.defAt_of KX G ?a_is_stretch ?l_is_stretch ?c_is_stretch ?k_is_stretch) (DL.defAt_of KX G ?a_meets ?l_meets ?c_meets ?k_meets) (DL.defAt_of KX G ?a_rows_behind ?l_rows_behind ?c_rows_behind ?k_rows_behind) (DL.defAt_of KX G ?a_step_to ?l_step_to ?c_step_to ?k_step_to) (DL.defAt_of KX G ?a_is_place ?l_is_place ?c_is_place ?k_is_place) (DL.defAt_of KX G ?a_is_rows ?l_is_rows ?c_is_rows ?k_is_rows) (DL.defAt_of KX G ?a_row_at ?l_row_at ?c_row_at ?k_row_at) (DL.defAt_of KX G ?a__law_some ?l__law_some ?c__law_some ?k__law_some) (DL.defAt_of KX G ?a__law_mixed ?l__law_mixed ?c__law_mixed ?k__law_mixed) (DL.defAt_of KX G ?a__law_lists ?l__law_lists ?c__law_lists ?k__law_lists) (DL.defAt_of KX G ?a_is_group ?l_is_group ?c_is_group ?k_is_group) (DL.defAt_of KX G ?a_lists_of ?l_lists_of ?c_lists_of ?k_lists_of) (DL.defAt_of KX G ?a_places_by ?l_places_by ?c_places_by ?k_places_by) (DL.defAt_of KX G ?a_apart ?l_apart ?c_apart ?k_apart) (DL.defAt_of KX G ?a_check_groups ?l_check_groups ?c_check_groups ?k_check_groups) (DL.defAt_of KX G ?a_laid ?l_laid ?c_laid ?k_laid) (DL.defAt_of KX G ?a_is_laid ?l_is_laid ?c_is_laid ?k_is_laid) (DL.defAt_of KX G ?a_is_none ?l_is_none ?c_is_none ?k_is_none) (DL.defAt_of KX G ?a_least_wide ?l_least_wide ?c_least_wide ?k_least_wide) (DL.defAt_of KX G ?a__law_singles_told ?l__law_singles_told ?c__law_singles_told ?k__law_singles_told) (DL.defAt_of KX G ?a__law_apart_told ?l__law_apart_told ?c__law_apart_told ?k__law_apart_told) (DL.defAt_of KX G ?a__law_wides_told ?l__law_wides_told ?c__law_wides_told ?k__law_wides_told) (DL.defAt_of KX G ?a_law ?l_law ?c_law ?k_law) ?hm
    (case T_abs => exact PySem.W.mg_none_of KX G (by k_is))
    (case T_bool => exact PySem.W.mg_none_of KX G (by k_is))
    (case T_dict => exact PySem.W.mg_none_of KX G (by k_is))
    (case T_enumerate => exact PySem.W.mg_none_of KX G (by k_is))
    (case T_int => exact PySem.W.mg_none_of KX G (by k_is))
    (case T_isinstance => exact PySem.W.mg_none_of KX G (by k_is))
    (case T_len => exact PySem.W.mg_none_of KX G (by k_is))
    (case T_list => exact PySem.W.mg_none_of KX G (by k_is))
    (case T_max => exact PySem.W.mg_none_of KX G (by k_is))
    (case T_min => exact PySem.W.mg_none_of KX G (by k_is))
    (case T_range => exact PySem.W.mg_none_of KX G (by k_is))
    (case T_repr => exact PySem.W.mg_none_of KX G (by k_is))
    (case T_sorted => exact PySem.W.mg_none_of KX G (by k_is))
    (case T_sum => exact PySem.W.mg_none_of KX G (by k_is))
    (case T_tuple => exact PySem.W.mg_none_of KX G (by k_is))
    (case T_g_MOST_ROOMS => exact ⟨_, PySem.W.mg_of KX G (by k_is)⟩)
    (case T_g_MOST_ROWS => exact ⟨_, PySem.W.mg_of KX G (by k_is)⟩)
    (case T_g_NIGHTS => exact ⟨_, PySem.W.mg_of KX G (by k_is)⟩)
    (case aI => k_is)
    (case gx => k_is)
    (case rd => k_is)
    (case fi => k_is)
    (case xa_NoWish => k_is)
    (case xL_NoWish => (refine Eq.trans (b := some _) (by k_is) ?_; refine congrArg some ?_; refine congr (congr (congr (congrArg Obj.mk ?_) ?_) ?_) ?_ <;> exact rfl))
    (case xs_NoWish => k_is)
    (case xe_NoWish => k_is)
    (case xt_NoWish => k_is)
    (case xk_NoWish => k_is)
    (case xn_NoWish => k_is)
    (case xi_NoWish => k_is)
    (case xj_NoWish => k_is)
    (case xl_NoWish => k_is)
    (case xc_NoWish => k_is)
    (case xf_NoWish => k_is)
    (case xa_TooMany => k_is)
    (case xL_TooMany => (refine Eq.trans (b := some _) (by k_is) ?_; refine congrArg some ?_; refine congr (congr (congr (congrArg Obj.mk ?_) ?_) ?_) ?_ <;> exact rfl))
    (case xs_TooMany => k_is)
    (case xe_TooMany => k_is)
    (case xt_TooMany => k_is)
    (case xk_TooMany => k_is)
    (case xn_TooMany => k_is)
    (case xi_TooMany => k_is)
    (case xj_TooMany => k_is)
    (case xl_TooMany => k_is)
    (case xc_TooMany => k_is)
    (case xf_TooMany => k_is)
    (case fa_TooMany => k_is)
    (case fg_TooMany => k_is)
    (case fe_TooMany => k_is)
    (case fh_TooMany => k_is)
    (case me_TooMany => k_is)
    (case mh_TooMany => k_is)
    (case mt_TooMany => k_is)
    (case ms_TooMany => first | rfl | k_is)
    (case a_is_whole => k_is)
    (case l_is_whole => k_is)
    (case c_is_whole => k_is)
    (case k_is_whole => k_is)
    (case a_holds => k_is)
    (case l_holds => k_is)
    (case c_holds => k_is)
    (case k_holds => k_is)
    (case a_shared => k_is)
    (case l_shared => k_is)
    (case c_shared => k_is)
    (case k_shared => k_is)
    (case a_in_turn => k_is)
    (case l_in_turn => k_is)
    (case c_in_turn => k_is)
    (case k_in_turn => k_is)
    (case a_row_behind => k_is)
    (case l_row_behind => k_is)
    (case c_row_behind => k_is)
    (case k_row_behind => k_is)
    (case a__law_bag => k_is)
    (case l__law_bag => k_is)
    (case c__law_bag => k_is)
    (case k__law_bag => k_is)
    (case a__law_take => k_is)
    (case l__law_take => k_is)
    (case c__law_take => k_is)
    (case k__law_take => k_is)
    (case a__law_alike => k_is)
    (case l__law_alike => k_is)
    (case c__law_alike => k_is)
    (case k__law_alike => k_is)
    (case a__law_lots => k_is)
    (case l__law_lots => k_is)
    (case c__law_lots => k_is)
    (case k__law_lots => k_is)
    (case a_is_stretch => k_is)
    (case l_is_stretch => k_is)
    (case c_is_stretch => k_is)
    (case k_is_stretch => k_is)
    (case a_meets => k_is)
    (case l_meets => k_is)
    (case c_meets => k_is)
    (case k_meets => k_is)
    (case a_rows_behind => k_is)
    (case l_rows_behind => k_is)
    (case c_rows_behind => k_is)
    (case k_rows_behind => k_is)
    (case a_step_to => k_is)
    (case l_step_to => k_is)
    (case c_step_to => k_is)
    (case k_step_to => k_is)
    (case a_is_place => k_is)
    (case l_is_place => k_is)
    (case c_is_place => k_is)
    (case k_is_place => k_is)
    (case a_is_rows => k_is)
    (case l_is_rows => k_is)
    (case c_is_rows => k_is)
    (case k_is_rows => k_is)
    (case a_row_at => k_is)
    (case l_row_at => k_is)
    (case c_row_at => k_is)
    (case k_row_at => k_is)
    (case a__law_some => k_is)
    (case l__law_some => k_is)
    (case c__law_some => k_is)
    (case k__law_some => k_is)
    (case a__law_mixed => k_is)
    (case l__law_mixed => k_is)
    (case c__law_mixed => k_is)
    (case k__law_mixed => k_is)
    (case a__law_lists => k_is)
    (case l__law_lists => k_is)
    (case c__law_lists => k_is)
    (case k__law_lists => k_is)
    (case a_is_group => k_is)
    (case l_is_group => k_is)
    (case c_is_group => k_is)
    (case k_is_group => k_is)
    (case a_lists_of => k_is)
    (case l_lists_of => k_is)
    (case c_lists_of => k_is)
    (case k_lists_of => k_is)
    (case a_places_by => k_is)
    (case l_places_by => k_is)
    (case c_places_by => k_is)
    (case k_places_by => k_is)
    (case a_apart => k_is)
    (case l_apart => k_is)
    (case c_apart => k_is)
    (case k_apart => k_is)
    (case a_check_groups => k_is)
    (case l_check_groups => k_is)
    (case c_check_groups => k_is)
    (case k_check_groups => k_is)
    (case a_laid => k_is)
    (case l_laid => k_is)
    (case c_laid => k_is)
    (case k_laid => k_is)
    (case a_is_laid => k_is)
    (case l_is_laid => k_is)
    (case c_is_laid => k_is)
    (case k_is_laid => k_is)
    (case a_is_none => k_is)
    (case l_is_none => k_is)
    (case c_is_none => k_is)
    (case k_is_none => k_is)
    (case a_least_wide => k_is)
    (case l_least_wide => k_is)
    (case c_least_wide => k_is)
    (case k_least_wide => k_is)
    (case a__law_singles_told => k_is)
    (case l__law_singles_told => k_is)
    (case c__law_singles_told => k_is)
    (case k__law_singles_told => k_is)
    (case a__law_apart_told => k_is)
    (case l__law_apart_told => k_is)
    (case c__law_apart_told => k_is)
    (case k__law_apart_told => k_is)
    (case a__law_wides_told => k_is)
    (case l__law_wides_told => k_is)
    (case c__law_wides_told => k_is)
    (case k__law_wides_told => k_is)
    (case a_law => k_is)
    (case l_law => k_is)
    (case c_law => k_is)
    (case k_law => k_is)
    (case hm => exact K05.law_true)

