import PyProof.Rows.All
import Wide.All
import OpenK.AllK
import Wide.FinOn
import HandS.ForMost
import KE.KDictKeyed
import KE.KeyNested
import HandS.Style
import HandS.Gcd
import HandS.IsInst
import HandS.Deep
import HandS.TupAny
import HandS.Wide
import PyProof.Rows.SeqMore
import HandS.More
import HandS.Text
import HandS.Star
import KE.KDictWalk
import KE.KDictExact
import HandS.Conv
import HandS.Zip
import KE.KDictPairs
import HandS.ListItems
import HandS.Rev
import HandS.RevTup
import HandS.AnyAll
import HandS.Ends
import HandS.Words
import HandS.WordsExc
import HandS.Defaults
import HandS.Head0
import HandS.Head1
import HandS.Head2
import HandS.Head3
import HandS.HeadEnd
import HandS.HeadHook1
import HandS.HeadHook2
import HandS.HeadHook3
import HandS.HeadHook4
import HandS.HeadWalk
import Lean
import PySem.Challenge.RW_arraysaligned_k47_whole_places_that_neve
section
set_option Elab.async false
set_option autoImplicit false
set_option linter.all false
set_option maxRecDepth 100000
set_option maxHeartbeats 1000000
/-! DL1: data over the abstract heap: what a value stands for, which addresses it does not lean on; the state of a body by data. -/
namespace DL
open PySem PySem.Spec PyProof.Rows L2

abbrev D := PyData
abbrev Fg := PySem.W.Frag
/-- the program, the world, the written part -/
structure Gs where
  P : Program
  w : World
  K : Fg
abbrev gs (X : Cx) : Gs := ⟨X.prog, X.w, X.K⟩
mutual
def keyOf : D → Option NestedKey
  | .none => some .none
  | .bool b => some (.num (if b = true then 1 else 0))
  | .int i => some (.num i)
  | .str x => some (.text x)
  | .tuple ds => (keysOf ds).map .tup
  | .list _ => none
  | .dict _ => none
def keysOf : List D → Option (List NestedKey)
  | [] => some []
  | d :: ds => (keyOf d).bind fun k => (keysOf ds).map fun ks => k :: ks
end
/-- a dict whose keys are tuples: its entries, as they stand -/
def HN (P : Program) (w : World) (a : Addr) (xs : List (NestedKey × Addr × Value)) : HO := .ext fun h =>
  ∃ o es ep, h.get? a = some o ∧ o.ExactDict ∧ o.data = .dict es ep ∧ es.toList = xs.map (entryOfKey (nestedKind P w)) ∧ (xs.map (·.1)).Nodup ∧ (a == sysModules) = false ∧ xs.length ≤ sizeLine
def kD : Key → D
  | .inl i => .int i
  | .inr x => .str x
/-- a text key is no longer than a line -/
def kOk : Key → Prop
  | .inl _ => True
  | .inr x => x.length ≤ sizeLine
/-- a tuple of the written part -/
def ConT (K : Fg) (a : Addr) (xs : List V) : Prop := SqT K (fun _ => none) a xs
theorem ConT.sq {K : Fg} {H : Hp} {a : Addr} {xs : List V} (h : ConT K a xs) : SqT K H a xs := by
  rcases h with (h | ⟨o, h⟩) | h
  · cases h
  · cases h
  · exact .inr h
/-- a list of the written part -/
def ConL (K : Fg) (a : Addr) (xs : List V) : Prop := SqL K (fun _ => none) a xs
theorem ConL.sq {K : Fg} {H : Hp} {a : Addr} {xs : List V} (h : ConL K a xs) : SqL K H a xs := by
  rcases h with (h | ⟨o, h⟩) | h
  · cases h
  · cases h
  · exact .inr h
theorem ConL.len {K : Fg} {a : Addr} {xs : List V} (h : ConL K a xs) : xs.length ≤ sizeLine := by
  rcases h with (h | ⟨o, h⟩) | ⟨o, its, n, _, _, _, _, hz, r⟩
  · cases h
  · cases h
  · have e := r.length
    simp only [Array.length_toList] at e
    omega
theorem ConT.len {K : Fg} {a : Addr} {xs : List V} (h : ConT K a xs) : xs.length ≤ sizeLine := by
  rcases h with (h | ⟨o, h⟩) | ⟨o, its, n, _, _, _, hz, r⟩
  · cases h
  · cases h
  · have e := r.length
    simp only [Array.length_toList] at e
    omega

mutual
/-- the value v stands for d, and leans on no address of M -/
inductive Rp (K : Gs) (H : Hp) (M : Addr → Prop) : V → D → Prop
  | non : Rp K H M .non .none
  | bl (b : Bool) : Rp K H M (.bl b) (.bool b)
  | int (i : Int) : Rp K H M (.int i) (.int i)
  | str (x : Str) : x.length ≤ sizeLine → Rp K H M (.str x) (.str x)
  | lst {a : Addr} {xs : List V} {ds : List D} : Rd H a (.lst xs) → ¬ M a → xs.length ≤ sizeLine → RpA K H M xs ds → Rp K H M (.ref a) (.list ds)
  | lstC {a : Addr} {xs : List V} {ds : List D} : ConL K.K a xs → RpA K H M xs ds → Rp K H M (.ref a) (.list ds)
  | tup {a : Addr} {xs : List V} {ds : List D} : H a = some (.tup xs) → ¬ M a → xs.length ≤ sizeLine → RpA K H M xs ds → Rp K H M (.ref a) (.tuple ds)
  | tupC {a : Addr} {xs : List V} {ds : List D} : ConT K.K a xs → RpA K H M xs ds → Rp K H M (.ref a) (.tuple ds)
  | dK {a : Addr} {kvs : List (Key × V)} {ds : List (D × D)} : Rd H a (.dK kvs) → ¬ M a → kvs.length ≤ sizeLine → RpK K H M kvs ds → Rp K H M (.ref a) (.dict ds)
  | dN {a : Addr} {xs : List (NestedKey × Addr × Value)} {ds : List (D × D)} : Rd H a (HN K.P K.w a xs) → ¬ M a → RpN K H M xs ds → Rp K H M (.ref a) (.dict ds)
inductive RpA (K : Gs) (H : Hp) (M : Addr → Prop) : List V → List D → Prop
  | nil : RpA K H M [] []
  | cons {v : V} {d : D} {vs : List V} {ds : List D} : Rp K H M v d → RpA K H M vs ds → RpA K H M (v :: vs) (d :: ds)
inductive RpK (K : Gs) (H : Hp) (M : Addr → Prop) : List (Key × V) → List (D × D) → Prop
  | nil : RpK K H M [] []
  | cons {k : Key} {v : V} {d : D} {vs : List (Key × V)} {ds : List (D × D)} : kOk k → Rp K H M v d → RpK K H M vs ds → RpK K H M ((k, v) :: vs) ((kD k, d) :: ds)
inductive RpN (K : Gs) (H : Hp) (M : Addr → Prop) : List (NestedKey × Addr × Value) → List (D × D) → Prop
  | nil : RpN K H M [] []
  | cons {k : NestedKey} {b : Addr} {u : Value} {v : V} {kd d : D} {xs : List (NestedKey × Addr × Value)} {ds : List (D × D)} : Rp K H M (.ref b) kd → keyOf kd = some k → k.depth ≤ 8 → RelV v u → Rp K H M v d → RpN K H M xs ds → RpN K H M ((k, b, u) :: xs) ((kd, d) :: ds)
end

/-- no table of code objects -/
def NT (u : HO) : Prop := ∀ q, u ≠ .tbl q
/-- a list or a tuple -/
def Sq : HO → Prop
  | .lst _ => True
  | .tup _ => True
  | .frz _ _ => True
  | _ => False
/-- from (H, M) to (H', M'): what is not in M can be read as before, M' has no old address that M had not -/
structure Stp (H : Hp) (M : Addr → Prop) (H' : Hp) (M' : Addr → Prop) : Prop where
  kp : ∀ b u, ¬ M b → NT u → Rd H b u → Rd H' b u
  kl : ∀ b o, ¬ M b → Sq o → H b = some o → H' b = some o
  nw : ∀ a, M' a → M a ∨ H a = none
  al : ∀ b, H b ≠ none → H' b ≠ none
section
variable {K : Gs} {H H' H'' : Hp} {M M' M'' : Addr → Prop}
theorem rd_some {H : Hp} {a : Addr} {u : HO} (r : Rd H a u) : H a ≠ none := by
  rcases r with r | ⟨o, r⟩ <;> rw [r] <;> intro z <;> cases z
theorem Stp.not (s : Stp H M H' M') {a : Addr} {u : HO} (r : Rd H a u) (n : ¬ M a) : ¬ M' a := fun z => by
  rcases s.nw a z with h | h
  · exact n h
  · exact rd_some r h
theorem Stp.refl : Stp H M H M := ⟨fun _ _ _ _ h => h, fun _ _ _ _ h => h, fun _ h => .inl h, fun _ h => h⟩
theorem Stp.trans (a : Stp H M H' M') (b : Stp H' M' H'' M'') : Stp H M H'' M'' :=
  ⟨fun c u n t r => b.kp c u (a.not r n) t (a.kp c u n t r), fun c o n q r => b.kl c o (a.not (.inl r) n) q (a.kl c o n q r), fun c h => by
    rcases b.nw c h with q | q
    · exact a.nw c q
    · cases e : H c with
      | none => exact .inr rfl
      | some o => exact absurd q (a.al c (by rw [e]; intro z; cases z)), fun c h => b.al c (a.al c h)⟩
theorem Stp.less (h : ∀ a, M' a → M a) : Stp H M H M' := ⟨fun _ _ _ _ r => r, fun _ _ _ _ r => r, fun a q => .inl (h a q), fun _ h => h⟩
theorem nt_dK {kvs : List (Key × V)} : NT (.dK kvs) := fun q z => by cases z
theorem nt_HN {P : Program} {w : World} {a : Addr} {xs : List (NestedKey × Addr × Value)} : NT (HN P w a xs) := fun q z => by unfold HN at z; cases z
mutual
theorem Rp.step (s : Stp H M H' M') : ∀ (d : D) (v : V), Rp K H M v d → Rp K H' M' v d
  | .none, _, h => by cases h; exact .non
  | .bool b, _, h => by cases h; exact .bl b
  | .int i, _, h => by cases h; exact .int i
  | .str x, _, h => by
    cases h with
    | str _ z => exact .str x z
  | .list ds, _, h => by
    cases h with
    | lst r n z q => exact .lst (s.kp _ _ n (fun z q => by cases q) r) (s.not r n) z (RpA.step s ds _ q)
    | lstC c q => exact .lstC c (RpA.step s ds _ q)
  | .tuple ds, _, h => by
    cases h with
    | tup r n z q => exact .tup (s.kl _ _ n trivial r) (s.not (.inl r) n) z (RpA.step s ds _ q)
    | tupC c q => exact .tupC c (RpA.step s ds _ q)
  | .dict ds, _, h => by
    cases h with
    | dK r n z q => exact .dK (s.kp _ _ n nt_dK r) (s.not r n) z (RpK.step s ds _ q)
    | dN r n q => exact .dN (s.kp _ _ n nt_HN r) (s.not r n) (RpN.step s ds _ q)
theorem RpA.step (s : Stp H M H' M') : ∀ (ds : List D) (vs : List V), RpA K H M vs ds → RpA K H' M' vs ds
  | [], _, h => by cases h; exact .nil
  | d :: ds, _, h => by
    cases h with
    | cons q r => exact .cons (Rp.step s d _ q) (RpA.step s ds _ r)
theorem RpK.step (s : Stp H M H' M') : ∀ (ds : List (D × D)) (vs : List (Key × V)), RpK K H M vs ds → RpK K H' M' vs ds
  | [], _, h => by cases h; exact .nil
  | (_, d) :: ds, _, h => by
    cases h with
    | cons z q r => exact .cons z (Rp.step s d _ q) (RpK.step s ds _ r)
theorem RpN.step (s : Stp H M H' M') : ∀ (ds : List (D × D)) (vs : List (NestedKey × Addr × Value)), RpN K H M vs ds → RpN K H' M' vs ds
  | [], _, h => by cases h; exact .nil
  | (kd, d) :: ds, _, h => by
    cases h with
    | cons q1 q2 q3 q4 q5 r => exact .cons (Rp.step s kd _ q1) q2 q3 q4 (Rp.step s d _ q5) (RpN.step s ds _ r)
end
theorem RpA.length : ∀ {vs : List V} {ds : List D}, RpA K H M vs ds → vs.length = ds.length
  | _, _, .nil => rfl
  | _, _, .cons _ r => congrArg (· + 1) (RpA.length r)
theorem RpK.length : ∀ {vs : List (Key × V)} {ds : List (D × D)}, RpK K H M vs ds → vs.length = ds.length
  | _, _, .nil => rfl
  | _, _, .cons _ _ r => congrArg (· + 1) (RpK.length r)
theorem RpN.length : ∀ {vs : List (NestedKey × Addr × Value)} {ds : List (D × D)}, RpN K H M vs ds → vs.length = ds.length
  | _, _, .nil => rfl
  | _, _, .cons _ _ _ _ _ r => congrArg (· + 1) (RpN.length r)
theorem RpA.append : ∀ {vs ws : List V} {ds es : List D}, RpA K H M vs ds → RpA K H M ws es → RpA K H M (vs ++ ws) (ds ++ es)
  | _, _, _, _, .nil, s => s
  | _, _, _, _, .cons q r, s => .cons q (RpA.append r s)
theorem RpA.get : ∀ {vs : List V} {ds : List D} {i : Nat} {d : D}, RpA K H M vs ds → ds[i]? = some d → ∃ v, vs[i]? = some v ∧ Rp K H M v d
  | _, _, _, _, .nil, e => by simp at e
  | _, _, 0, _, .cons q _, e => by simp at e; subst e; exact ⟨_, rfl, q⟩
  | _, _, i + 1, d, .cons _ r, e => by
    obtain ⟨v, h1, h2⟩ := RpA.get (i := i) (d := d) r (by simpa using e)
    exact ⟨v, by simpa using h1, h2⟩
theorem RpA.getV : ∀ {vs : List V} {ds : List D} {i : Nat} {v : V}, RpA K H M vs ds → vs[i]? = some v → ∃ d, ds[i]? = some d ∧ Rp K H M v d
  | _, _, _, _, .nil, e => by simp at e
  | _, _, 0, _, .cons q _, e => by simp at e; subst e; exact ⟨_, rfl, q⟩
  | _, _, i + 1, d, .cons _ r, e => by
    obtain ⟨v, h1, h2⟩ := RpA.getV (i := i) (v := d) r (by simpa using e)
    exact ⟨v, by simpa using h1, h2⟩
theorem RpA.set : ∀ {vs : List V} {ds : List D} (i : Nat) {v : V} {d : D}, RpA K H M vs ds → Rp K H M v d → RpA K H M (vs.set i v) (ds.set i d)
  | _, _, _, _, _, .nil, _ => .nil
  | _, _, 0, _, _, .cons _ r, p => .cons p r
  | _, _, i + 1, _, _, .cons q r, p => .cons q (RpA.set i r p)
theorem RpA.dropLast : ∀ {vs : List V} {ds : List D}, RpA K H M vs ds → RpA K H M vs.dropLast ds.dropLast
  | _, _, .nil => .nil
  | _, _, .cons q .nil => .nil
  | _, _, .cons q (.cons q2 r) => .cons q (RpA.dropLast (.cons q2 r))
theorem RpA.take : ∀ {vs : List V} {ds : List D} (n : Nat), RpA K H M vs ds → RpA K H M (vs.take n) (ds.take n)
  | _, _, 0, _ => .nil
  | _, _, _ + 1, .nil => .nil
  | _, _, n + 1, .cons q r => .cons q (RpA.take n r)
theorem RpA.drop : ∀ {vs : List V} {ds : List D} (n : Nat), RpA K H M vs ds → RpA K H M (vs.drop n) (ds.drop n)
  | _, _, 0, r => r
  | _, _, _ + 1, .nil => .nil
  | _, _, n + 1, .cons _ r => RpA.drop n r
theorem RpA.reverse : ∀ {vs : List V} {ds : List D}, RpA K H M vs ds → RpA K H M vs.reverse ds.reverse
  | _, _, .nil => .nil
  | _, _, .cons q r => by
    rw [List.reverse_cons, List.reverse_cons]
    exact (RpA.reverse r).append (.cons q .nil)
theorem RpA.ints : ∀ {vs : List V} {ns : List Int}, RpA K H M vs (ns.map PyData.int) → vs = ns.map V.int
  | [], [], _ => rfl
  | _ :: _, [], h => by cases h
  | [], _ :: _, h => by cases h
  | v :: vs, n :: ns, h => by
    cases h with
    | cons q r => cases q; rw [RpA.ints (ns := ns) r]; rfl
theorem RpA.ofInts : ∀ (ns : List Int), RpA K H M (ns.map V.int) (ns.map PyData.int)
  | [] => .nil
  | n :: ns => .cons (.int n) (RpA.ofInts ns)
theorem RpA.strs : ∀ {vs : List V} {ns : List Str}, RpA K H M vs (ns.map PyData.str) → vs = ns.map V.str
  | [], [], _ => rfl
  | _ :: _, [], h => by cases h
  | [], _ :: _, h => by cases h
  | v :: vs, n :: ns, h => by
    cases h with
    | cons q r => cases q; rw [RpA.strs (ns := ns) r]; rfl
theorem RpA.ofStrs : ∀ (ns : List Str), (∀ n ∈ ns, n.length ≤ sizeLine) → RpA K H M (ns.map V.str) (ns.map PyData.str)
  | [], _ => .nil
  | n :: ns, h => .cons (.str n (h n List.mem_cons_self)) (RpA.ofStrs ns fun m hm => h m (List.mem_cons_of_mem _ hm))
/-- a list, a tuple, as it is read -/
theorem Rp.seqL {v : V} {ds : List D} (h : Rp K H M v (.list ds)) : ∃ a xs, v = .ref a ∧ SqL K.K H a xs ∧ xs.length ≤ sizeLine ∧ RpA K H M xs ds := by
  cases h with
  | lst r n z q => exact ⟨_, _, rfl, .inl r, z, q⟩
  | lstC c q => exact ⟨_, _, rfl, c.sq, c.len, q⟩
theorem Rp.seqT {v : V} {ds : List D} (h : Rp K H M v (.tuple ds)) : ∃ a xs, v = .ref a ∧ SqT K.K H a xs ∧ xs.length ≤ sizeLine ∧ RpA K H M xs ds := by
  cases h with
  | tup r n z q => exact ⟨_, _, rfl, .inl (.inl r), z, q⟩
  | tupC c q => exact ⟨_, _, rfl, c.sq, c.len, q⟩
end

/-! ### what is one's own -/
inductive Kd | lst | dK | dN
  deriving DecidableEq
def OwnAt (K : Gs) (H : Hp) (M : Addr → Prop) : Kd → Addr → D → Prop
  | .lst, a, d => ∃ vs ds, d = .list ds ∧ H a = some (.lst vs) ∧ vs.length ≤ sizeLine ∧ RpA K H M vs ds
  | .dK, a, d => ∃ vs ds, d = .dict ds ∧ H a = some (.dK vs) ∧ vs.length ≤ sizeLine ∧ RpK K H M vs ds
  | .dN, a, d => ∃ vs ds, d = .dict ds ∧ H a = some (HN K.P K.w a vs) ∧ RpN K H M vs ds
section
variable {K : Gs} {H H' : Hp} {M M' : Addr → Prop}
theorem OwnAt.step (s : Stp H M H' M') {k : Kd} {a : Addr} {d : D} (e : H' a = H a) (h : OwnAt K H M k a d) : OwnAt K H' M' k a d := by
  cases k with
  | lst => obtain ⟨vs, ds, e1, e2, z, r⟩ := h; exact ⟨vs, ds, e1, e.trans e2, z, r.step s _ _⟩
  | dK => obtain ⟨vs, ds, e1, e2, z, r⟩ := h; exact ⟨vs, ds, e1, e.trans e2, z, r.step s _ _⟩
  | dN => obtain ⟨vs, ds, e1, e2, r⟩ := h; exact ⟨vs, ds, e1, e.trans e2, r.step s _ _⟩
theorem OwnAt.some {k : Kd} {a : Addr} {d : D} (h : OwnAt K H M k a d) : H a ≠ none := by
  cases k <;> obtain ⟨vs, ds, e1, e2, r⟩ := h <;> rw [e2] <;> intro z <;> exact nomatch z
/-- let go: it is data as any other -/
theorem OwnAt.rp {k : Kd} {a : Addr} {d : D} (h : OwnAt K H M k a d) (hM : ∀ b, M' b → M b) (n : ¬ M' a) : Rp K H M' (.ref a) d := by
  have s : Stp H M H M' := .less hM
  cases k with
  | lst => obtain ⟨vs, ds, rfl, e2, z, r⟩ := h; exact .lst (.inl e2) n z (r.step s _ _)
  | dK => obtain ⟨vs, ds, rfl, e2, z, r⟩ := h; exact .dK (.inl e2) n z (r.step s _ _)
  | dN => obtain ⟨vs, ds, rfl, e2, r⟩ := h; exact .dN (.inl e2) n (r.step s _ _)
end

/-! ### the state of a body -/
inductive Cell
  | val (d : D)
  | own (k : Kd) (d : D)
abbrev Env := List (Option Cell)
/-- the entry: its heap, the addresses that others own, those of them that may be written, the slots that hold these -/
structure Dy where
  H0 : Hp
  M0 : Addr → Prop
  wr : Addr → Prop
  ls : List (Nat × Addr)
  tb : List Addr
/-- the tables of code objects -/
structure Tbs (Y : Dy) (H : Hp) : Prop where
  tk : ∀ b q, Y.H0 b = some (.tbl q) → ∃ q', H b = some (.tbl q')
  at_ : ∀ P ∈ Y.tb, ∃ q, H P = some (.tbl q) ∧ TriplesOk q.toList
def SlOk (K : Gs) (H : Hp) (M : Addr → Prop) (v : V) : Cell → Prop
  | .val d => Rp K H M v d
  | .own k d => ∃ a, v = .ref a ∧ M a ∧ OwnAt K H M k a d
/-- the slot i of ρ owns what stands at a -/
def OwnSl (σ : L2.St) (ρ : Env) (i : Nat) (a : Addr) : Prop := (∃ k d, ρ[i]? = some (some (.own k d))) ∧ σ[i]? = some (some (.ref a))
structure SR (K : Gs) (Y : Dy) (σ : L2.St) (H : Hp) (M : Addr → Prop) (ρ : Env) : Prop where
  len : σ.length = ρ.length
  keep : ∀ (b : Addr) (o : HO), ¬ Y.wr b → Y.M0 b → NT o → Y.H0 b = some o → H b = some o
  tb : Tbs Y H
  m0 : ∀ a, Y.M0 a → Y.H0 a ≠ none
  w0 : ∀ a, Y.wr a → Y.M0 a
  lw : ∀ p ∈ Y.ls, Y.wr p.2
  wl : ∀ a, Y.wr a → ∃ p ∈ Y.ls, p.2 = a
  mle : ∀ a, Y.M0 a → M a
  st0 : Stp Y.H0 Y.M0 H M
  al : ∀ a, M a → H a ≠ none
  slot : ∀ (i : Nat) (c : Cell), ρ[i]? = some (some c) → ∃ v, σ[i]? = some (some v) ∧ SlOk K H M v c
  inj : ∀ i j a, OwnSl σ ρ i a → OwnSl σ ρ j a → i = j
  own : ∀ i a, OwnSl σ ρ i a → Y.wr a ∨ Y.H0 a = none
  lst : ∀ p ∈ Y.ls, OwnSl σ ρ p.1 p.2
section
variable {K : Gs} {Y : Dy} {σ σ' : L2.St} {H H' : Hp} {M M' : Addr → Prop} {ρ ρ' : Env}
/-- all that was tracked is as it was -/
theorem Tbs.grow {Y : Dy} (t : Tbs Y H) (g : Same H H') : Tbs Y H' := ⟨fun b q e => by
  obtain ⟨q', e'⟩ := t.tk b q e
  exact ⟨q', g _ _ e'⟩, fun P h => by
  obtain ⟨q, e, k⟩ := t.at_ P h
  exact ⟨q, g _ _ e, k⟩⟩
theorem Tbs.upd {Y : Dy} (t : Tbs Y H) {a : Addr} {o : HO} (n : ∀ q, H a ≠ some (.tbl q)) : Tbs Y (upd H a o) := ⟨fun b q e => by
  obtain ⟨q', e'⟩ := t.tk b q e
  have nb : b ≠ a := fun z => n q' (by rw [← z]; exact e')
  exact ⟨q', by rw [L2.upd_ne nb]; exact e'⟩, fun P h => by
  obtain ⟨q, e, k⟩ := t.at_ P h
  have nb : P ≠ a := fun z => n q (by rw [← z]; exact e)
  exact ⟨q, by rw [L2.upd_ne nb]; exact e, k⟩⟩
theorem own_nt {k : Kd} {a : Addr} {d : D} (h : OwnAt K H M k a d) : ∀ q : Array Value, H a ≠ some (HO.tbl q) := by
  intro q z
  cases k with
  | lst => obtain ⟨vs, ds, _, e, _⟩ := h; rw [e] at z; cases z
  | dK => obtain ⟨vs, ds, _, e, _⟩ := h; rw [e] at z; cases z
  | dN => obtain ⟨vs, ds, _, e, _⟩ := h; rw [e] at z; unfold HN at z; cases z
theorem Stp.grow (g : Same H H') : Stp H M H' M := ⟨fun b u _ _ r => by
  rcases r with r | ⟨o, r⟩
  · exact .inl (g b u r)
  · exact .inr ⟨o, g b _ r⟩, fun b o _ _ r => g b o r, fun _ h => .inl h, fun b h => by
    cases e : H b with
    | none => exact absurd e h
    | some o => rw [g b o e]; intro z; cases z⟩
theorem SR.ownM (s : SR K Y σ H M ρ) {i : Nat} {a : Addr} (o : OwnSl σ ρ i a) : M a ∧ H a ≠ none := by
  obtain ⟨⟨k, d, e⟩, e2⟩ := o
  obtain ⟨v, e3, b, e4, m, w⟩ := s.slot i _ e
  rw [e2] at e3
  have : V.ref a = v := Option.some.inj (Option.some.inj e3)
  rw [← this] at e4
  cases e4
  exact ⟨m, w.some⟩
theorem SR.grow (s : SR K Y σ H M ρ) (g : Same H H') : SR K Y σ H' M ρ where
  len := s.len
  keep := fun b o n m t e => g b o (s.keep b o n m t e)
  tb := s.tb.grow g
  m0 := s.m0
  w0 := s.w0
  lw := s.lw
  wl := s.wl
  mle := s.mle
  st0 := s.st0.trans (.grow g)
  al := fun a h => by
    have := s.al a h
    cases e : H a with
    | none => exact absurd e this
    | some o => rw [g a o e]; intro z; cases z
  slot := fun i c e => by
    obtain ⟨v, e1, h⟩ := s.slot i c e
    refine ⟨v, e1, ?_⟩
    cases c with
    | val d => exact Rp.step (Stp.grow g) d v h
    | own k d =>
      obtain ⟨a, ea, m, w⟩ := h
      refine ⟨a, ea, m, w.step (Stp.grow g) ?_⟩
      have := w.some
      cases e : H a with
      | none => exact absurd e this
      | some o => exact g a o e
  inj := s.inj
  own := s.own
  lst := s.lst
theorem SR.mnew (s : SR K Y σ H M ρ) : ∀ a, M a → Y.M0 a ∨ Y.H0 a = none := s.st0.nw
theorem SR.h0none (s : SR K Y σ H M ρ) {p : Addr} (n : H p = none) : Y.H0 p = none := by
  cases e : Y.H0 p with
  | none => rfl
  | some o => exact absurd n (s.st0.al p (by rw [e]; intro z; cases z))
theorem same_upd {p : Addr} {o : HO} (h : H p = none) : Same H (upd H p o) := fun b x e => by
  rw [upd_ne (ne_of_none e h)]; exact e
theorem upd_al {a : Addr} {o : HO} : ∀ b, H b ≠ none → upd H a o b ≠ none := fun b h => by
  by_cases hb : b = a
  · rw [hb, upd_same]; intro z; cases z
  · rw [upd_ne hb]; exact h
/-- the addresses and one more -/
def Mp (M : Addr → Prop) (p : Addr) : Addr → Prop := fun a => M a ∨ a = p
def Mm (M : Addr → Prop) (p : Addr) : Addr → Prop := fun a => M a ∧ a ≠ p
theorem Stp.more {p : Addr} {o : HO} (h : H p = none) : Stp H M (upd H p o) (Mp M p) :=
  ⟨(Stp.grow (M := M) (same_upd h)).kp, (Stp.grow (M := M) (same_upd h)).kl, fun a q => by
    rcases q with q | q
    · exact .inl q
    · rw [q]; exact .inr h, (Stp.grow (M := M) (same_upd h)).al⟩
theorem SR.more (s : SR K Y σ H M ρ) {p : Addr} {o : HO} (h : H p = none) : SR K Y σ (upd H p o) (Mp M p) ρ := by
  have s' := s.grow (same_upd (o := o) h)
  have st : Stp (upd H p o) M (upd H p o) M := .refl
  have nM : ¬ M p := fun z => s.al p z h
  refine ⟨s.len, s'.keep, s'.tb, s.m0, s.w0, s.lw, s.wl, fun a q => .inl (s.mle a q), s.st0.trans (.more h), fun a q => ?_, fun i c e => ?_, s.inj, s.own, s.lst⟩
  · rcases q with q | q
    · exact s'.al a q
    · rw [q, upd_same]; intro z; cases z
  · obtain ⟨v, e1, q⟩ := s.slot i c e
    refine ⟨v, e1, ?_⟩
    cases c with
    | val d => exact Rp.step (Stp.more h) d v q
    | own k d =>
      obtain ⟨a, ea, m, w⟩ := q
      exact ⟨a, ea, .inl m, w.step (Stp.more h) (upd_ne fun z => nM (z ▸ m))⟩
/-- fewer addresses, none of them owned by a slot, or others' -/
theorem SR.less (s : SR K Y σ H M ρ) (hM : ∀ a, M' a → M a) (h0 : ∀ a, Y.M0 a → M' a) (ho : ∀ i a, OwnSl σ ρ i a → M' a) : SR K Y σ H M' ρ := by
  refine ⟨s.len, s.keep, s.tb, s.m0, s.w0, s.lw, s.wl, h0, s.st0.trans (.less hM), fun a q => s.al a (hM a q), fun i c e => ?_, s.inj, s.own, s.lst⟩
  obtain ⟨v, e1, q⟩ := s.slot i c e
  refine ⟨v, e1, ?_⟩
  cases c with
  | val d => exact Rp.step (Stp.less hM) d v q
  | own k d =>
    obtain ⟨a, ea, m, w⟩ := q
    subst ea
    exact ⟨a, rfl, ho i a ⟨⟨k, d, e⟩, e1⟩, w.step (Stp.less hM) rfl⟩
theorem SR.drop1 (s : SR K Y σ H M ρ) {p : Addr} (h0 : Y.H0 p = none) (ho : ∀ i, ¬ OwnSl σ ρ i p) : SR K Y σ H (Mm M p) ρ :=
  s.less (fun _ q => q.1) (fun a q => ⟨s.mle a q, fun z => s.m0 a q (z ▸ h0)⟩) (fun i a q => ⟨(s.ownM q).1, fun z => ho i (z ▸ q)⟩)
theorem getElem?_set' {α : Type} {l : List α} {i j : Nat} {x y : α} (h : (l.set i x)[j]? = some y) : (j = i ∧ i < l.length ∧ x = y) ∨ (j ≠ i ∧ l[j]? = some y) := by
  by_cases e : i = j
  · subst e
    by_cases hl : i < l.length
    · rw [List.getElem?_set_self hl] at h; exact .inl ⟨rfl, hl, Option.some.inj h⟩
    · rw [List.getElem?_eq_none (by simpa using hl)] at h; cases h
  · rw [List.getElem?_set_ne e] at h; exact .inr ⟨fun z => e z.symm, h⟩
/-- a value stored in a slot that holds nothing that must stay -/
theorem SR.set (s : SR K Y σ H M ρ) {i : Nat} {v : V} {c : Cell} (h : SlOk K H M v c) (hl : ∀ p ∈ Y.ls, p.1 ≠ i)
    (ho : ∀ k d a, c = .own k d → v = .ref a → (∀ j, ¬ OwnSl σ ρ j a) ∧ (Y.wr a ∨ Y.H0 a = none)) : SR K Y (σ.set i (some v)) H M (ρ.set i (some c)) := by
  have old : ∀ j a, OwnSl (σ.set i (some v)) (ρ.set i (some c)) j a → (j = i ∧ (∃ k d, c = .own k d) ∧ v = .ref a) ∨ (j ≠ i ∧ OwnSl σ ρ j a) := fun j a q => by
    obtain ⟨⟨k, d, e1⟩, e2⟩ := q
    rcases getElem?_set' e1 with ⟨e, _, e3⟩ | ⟨e, e3⟩
    · rcases getElem?_set' e2 with ⟨_, _, e4⟩ | ⟨e', _⟩
      · exact .inl ⟨e, ⟨k, d, Option.some.inj e3⟩, Option.some.inj e4⟩
      · exact absurd e e'
    · rcases getElem?_set' e2 with ⟨e', _, _⟩ | ⟨_, e4⟩
      · exact absurd e' e
      · exact .inr ⟨e, ⟨k, d, e3⟩, e4⟩
  refine ⟨by simpa using s.len, s.keep, s.tb, s.m0, s.w0, s.lw, s.wl, s.mle, s.st0, s.al, fun j c' e => ?_, fun j k a q1 q2 => ?_, fun j a q => ?_, fun p hp => ?_⟩
  · rcases getElem?_set' e with ⟨e1, e2, e3⟩ | ⟨e1, e2⟩
    · subst e1
      cases Option.some.inj e3
      exact ⟨v, by rw [List.getElem?_set_self (by rw [s.len]; exact e2)], h⟩
    · obtain ⟨w, e3, q⟩ := s.slot j c' e2
      exact ⟨w, by rw [List.getElem?_set_ne (fun z => e1 z.symm)]; exact e3, q⟩
  · rcases old j a q1 with ⟨rfl, ⟨k1, d1, e1⟩, ev⟩ | ⟨n1, p1⟩
    · rcases old k a q2 with ⟨rfl, _⟩ | ⟨n2, p2⟩
      · rfl
      · exact absurd p2 ((ho _ _ a e1 ev).1 k)
    · rcases old k a q2 with ⟨rfl, ⟨k1, d1, e1⟩, ev⟩ | ⟨n2, p2⟩
      · exact absurd p1 ((ho _ _ a e1 ev).1 j)
      · exact s.inj j k a p1 p2
  · rcases old j a q with ⟨rfl, ⟨k1, d1, e1⟩, ev⟩ | ⟨n1, p1⟩
    · exact (ho _ _ a e1 ev).2
    · exact s.own j a p1
  · obtain ⟨⟨k, d, e1⟩, e2⟩ := s.lst p hp
    exact ⟨⟨k, d, by rw [List.getElem?_set_ne (fun z => hl p hp z.symm)]; exact e1⟩, by rw [List.getElem?_set_ne (fun z => hl p hp z.symm)]; exact e2⟩
/-- a slot forgotten -/
theorem SR.kill (s : SR K Y σ H M ρ) (i : Nat) (hl : ∀ p ∈ Y.ls, p.1 ≠ i) : SR K Y σ H M (ρ.set i none) := by
  have old : ∀ j a, OwnSl σ (ρ.set i none) j a → OwnSl σ ρ j a := fun j a q => by
    obtain ⟨⟨k, d, e1⟩, e2⟩ := q
    rcases getElem?_set' e1 with ⟨_, _, e⟩ | ⟨_, e⟩
    · cases e
    · exact ⟨⟨k, d, e⟩, e2⟩
  refine ⟨by simpa using s.len, s.keep, s.tb, s.m0, s.w0, s.lw, s.wl, s.mle, s.st0, s.al, fun j c e => ?_, fun j k a q1 q2 => s.inj j k a (old j a q1) (old k a q2), fun j a q => s.own j a (old j a q), fun p hp => ?_⟩
  · rcases getElem?_set' e with ⟨_, _, e1⟩ | ⟨_, e1⟩
    · cases e1
    · exact s.slot j c e1
  · obtain ⟨⟨k, d, e1⟩, e2⟩ := s.lst p hp
    exact ⟨⟨k, d, by rw [List.getElem?_set_ne (fun z => hl p hp z.symm)]; exact e1⟩, e2⟩
/-- what a slot owns is changed -/
theorem SR.write (s : SR K Y σ H M ρ) {i : Nat} {a : Addr} {o : HO} {k : Kd} {d : D} (q : OwnSl σ ρ i a) (w : OwnAt K (upd H a o) M k a d) :
    SR K Y σ (upd H a o) M (ρ.set i (some (.own k d))) ∧ Stp H M (upd H a o) M := by
  have ma := (s.ownM q).1
  have nt : ∀ q, H a ≠ some (.tbl q) := by
    obtain ⟨⟨k', d', e⟩, e2⟩ := q
    obtain ⟨v, e3, b, e4, m, w'⟩ := s.slot i _ e
    rw [e2] at e3
    have : V.ref a = v := Option.some.inj (Option.some.inj e3)
    rw [← this] at e4
    cases e4
    exact own_nt w'
  have st : Stp H M (upd H a o) M := ⟨fun b u n _ r => by
    have nb : b ≠ a := fun z => n (z ▸ ma)
    rcases r with r | ⟨x, r⟩
    · exact .inl (by rw [upd_ne nb]; exact r)
    · exact .inr ⟨x, by rw [upd_ne nb]; exact r⟩, fun b xs n _ r => by
    have nb : b ≠ a := fun z => n (z ▸ ma)
    rw [upd_ne nb]; exact r, fun _ h => .inl h, fun b h => by
    by_cases hb : b = a
    · rw [hb, upd_same]; intro z; cases z
    · rw [upd_ne hb]; exact h⟩
  have old : ∀ j b, OwnSl σ (ρ.set i (some (.own k d))) j b → OwnSl σ ρ j b := fun j b q' => by
    obtain ⟨⟨k', d', e1⟩, e2⟩ := q'
    rcases getElem?_set' e1 with ⟨rfl, _, e⟩ | ⟨_, e⟩
    · rw [q.2] at e2
      cases e2
      exact q
    · exact ⟨⟨k', d', e⟩, e2⟩
  refine ⟨⟨by simpa using s.len, fun b u n m t e => ?_, s.tb.upd nt, s.m0, s.w0, s.lw, s.wl, s.mle, s.st0.trans st, fun b h => ?_, fun j c e => ?_, fun j l b q1 q2 => s.inj j l b (old j b q1) (old l b q2), fun j b q' => s.own j b (old j b q'), fun p hp => ?_⟩, st⟩
  · have nb : b ≠ a := fun z => by
      subst z
      rcases s.own i b q with h | h
      · exact n h
      · rw [h] at e; cases e
    rw [upd_ne nb]
    exact s.keep b u n m t e
  · by_cases hb : b = a
    · rw [hb, upd_same]; intro z; cases z
    · rw [upd_ne hb]; exact s.al b h
  · rcases getElem?_set' e with ⟨rfl, _, e1⟩ | ⟨n1, e1⟩
    · cases Option.some.inj e1
      exact ⟨.ref a, q.2, a, rfl, ma, w⟩
    · obtain ⟨v, e2, h⟩ := s.slot j c e1
      refine ⟨v, e2, ?_⟩
      cases c with
      | val d' => exact Rp.step st d' v h
      | own k' d' =>
        obtain ⟨b, eb, mb, wb⟩ := h
        subst eb
        refine ⟨b, rfl, mb, wb.step st (upd_ne fun z => ?_)⟩
        subst z
        exact n1 (s.inj j i b ⟨⟨k', d', e1⟩, e2⟩ q)
  · obtain ⟨⟨k', d', e1⟩, e2⟩ := s.lst p hp
    by_cases hi : i = p.1
    · refine ⟨⟨k, d, ?_⟩, e2⟩
      rw [hi, List.getElem?_set_self (List.getElem?_eq_some_iff.mp e1).1]
    · exact ⟨⟨k', d', by rw [List.getElem?_set_ne hi]; exact e1⟩, e2⟩
/-- a slot that is not lent owns what is new -/
theorem SR.mine (s : SR K Y σ H M ρ) {i : Nat} {a : Addr} (q : OwnSl σ ρ i a) (hl : ∀ p ∈ Y.ls, p.1 ≠ i) : Y.H0 a = none := by
  rcases s.own i a q with h | h
  · obtain ⟨p, hp, e⟩ := s.wl a h
    subst e
    exact absurd (s.inj _ _ _ (s.lst p hp) q) (hl p hp)
  · exact h
/-- within: a frame that begins here; what the slots own by themselves counts as not there yet -/
def Mine (Y : Dy) (σ : L2.St) (ρ : Env) (b : Addr) : Prop := Y.H0 b = none ∧ ∃ i, OwnSl σ ρ i b
open Classical in
noncomputable def inner (Y : Dy) (σ : L2.St) (H : Hp) (M : Addr → Prop) (ρ : Env) : Dy where
  H0 := fun b => if Mine Y σ ρ b then none else H b
  M0 := fun a => M a ∧ ¬ Mine Y σ ρ a
  wr := Y.wr
  ls := Y.ls
  tb := Y.tb
theorem SR.enter (s : SR K Y σ H M ρ) : SR K (inner Y σ H M ρ) σ H M ρ := by
  classical
  refine ⟨s.len, fun b o _ _ _ e => ?_, ⟨fun b q e => ?_, s.tb.at_⟩, fun a q => ?_, fun a q => ⟨s.mle a (s.w0 a q), fun z => s.m0 a (s.w0 a q) z.1⟩, s.lw, s.wl, fun a q => q.1, ⟨fun b u _ _ r => ?_, fun b o _ _ r => ?_, fun a q => ?_, fun b h => ?_⟩, s.al, s.slot, s.inj, fun i a q => ?_, s.lst⟩
  · have e' : (if Mine Y σ ρ b then none else H b) = some o := e
    split at e'
    · cases e'
    · exact e'
  · have e' : (if Mine Y σ ρ b then none else H b) = some (.tbl q) := e
    split at e'
    · cases e'
    · exact ⟨q, e'⟩
  · show (if Mine Y σ ρ a then none else H a) ≠ none
    rw [if_neg q.2]; exact s.al a q.1
  · have e' : ∀ o, (if Mine Y σ ρ b then none else H b) = some o → H b = some o := fun o z => by
      split at z
      · cases z
      · exact z
    rcases r with r | ⟨x, r⟩
    · exact .inl (e' _ r)
    · exact .inr ⟨x, e' _ r⟩
  · have e' : (if Mine Y σ ρ b then none else H b) = some o := r
    split at e'
    · cases e'
    · exact e'
  · by_cases h : Mine Y σ ρ a
    · refine .inr ?_
      show (if Mine Y σ ρ a then none else H a) = none
      rw [if_pos h]
    · exact .inl ⟨q, h⟩
  · have h' : (if Mine Y σ ρ b then none else H b) ≠ none := h
    split at h'
    · exact absurd rfl h'
    · exact h'
  · rcases s.own i a q with h | h
    · exact .inl h
    · refine .inr ?_
      show (if Mine Y σ ρ a then none else H a) = none
      rw [if_pos ⟨h, i, q⟩]
theorem SR.leave (s : SR K Y σ H M ρ) {σ2 : L2.St} {H2 : Hp} {M2 : Addr → Prop} {ρ2 : Env} (s2 : SR K (inner Y σ H M ρ) σ2 H2 M2 ρ2) : SR K Y σ2 H2 M2 ρ2 := by
  classical
  have hn : ∀ a, (inner Y σ H M ρ).H0 a = none → Y.H0 a = none := fun a e => by
    have e' : (if Mine Y σ ρ a then none else H a) = none := e
    split at e'
    · rename_i h; exact h.1
    · exact s.h0none e'
  have nm : ∀ b, Y.H0 b ≠ none → (inner Y σ H M ρ).H0 b = H b := fun b h => by
    show (if Mine Y σ ρ b then none else H b) = H b
    rw [if_neg fun z => h z.1]
  have i0 : ∀ b, ¬ M b → ¬ (inner Y σ H M ρ).M0 b := fun b n z => n z.1
  have so : ∀ {b : Addr} {o : HO}, Y.H0 b = some o → Y.H0 b ≠ none := fun e z => by rw [e] at z; cases z
  refine ⟨s2.len, fun b o n m t e => ?_, ⟨fun b q e => ?_, s2.tb.at_⟩, s.m0, s.w0, s.lw, s.wl, fun a q => s2.mle a ⟨s.mle a q, fun z => s.m0 a q z.1⟩, ⟨fun b u n t r => ?_, fun b o n t r => ?_, fun a q => ?_, fun b h => ?_⟩, s2.al, s2.slot, s2.inj, fun i a q => ?_, s2.lst⟩
  · exact s2.keep b o n ⟨s.mle b m, fun z => so e z.1⟩ t ((nm b (so e)).trans (s.keep b o n m t e))
  · obtain ⟨q1, e1⟩ := s.tb.tk b q e
    exact s2.tb.tk b q1 ((nm b (so e)).trans e1)
  · have h0 := rd_some r
    have r1 := s.st0.kp b u n t r
    have r2 : Rd (inner Y σ H M ρ).H0 b u := by
      unfold Rd
      rw [nm b h0]
      exact r1
    exact s2.st0.kp b u (i0 b (s.st0.not r n)) t r2
  · exact s2.st0.kl b o (i0 b (s.st0.not (.inl r) n)) t ((nm b (so r)).trans (s.st0.kl b o n t r))
  · rcases s2.mnew a q with h | h
    · exact s.mnew a h.1
    · exact .inr (hn a h)
  · exact s2.st0.al b (by rw [nm b h]; exact s.st0.al b h)
  · rcases s2.own i a q with h | h
    · exact .inl h
    · exact .inr (hn a h)
/-- what stood and is nobody's slot's stands as it was -/
theorem SR.within (s : SR K Y σ H M ρ) {σ2 : L2.St} {H2 : Hp} {M2 : Addr → Prop} {ρ2 : Env} (s2 : SR K (inner Y σ H M ρ) σ2 H2 M2 ρ2) {b : Addr} {o : HO} (m : M b) (t : NT o) (e : H b = some o) (n : ∀ i, ¬ OwnSl σ ρ i b) : H2 b = some o := by
  classical
  refine s2.keep b o (fun z => ?_) ⟨m, fun z => by obtain ⟨i, q⟩ := z.2; exact n i q⟩ t ?_
  · obtain ⟨p, hp, e2⟩ := s.wl b z
    exact n p.1 (e2 ▸ s.lst p hp)
  · show (if Mine Y σ ρ b then none else H b) = some o
    rw [if_neg fun z => by obtain ⟨i, q⟩ := z.2; exact n i q]
    exact e
/-- a table of code objects has grown -/
theorem SR.tabbed (s : SR K Y σ H M ρ) {P : Addr} {q : Array Value} (hP : H P = some (.tbl q)) (hP' : ∃ q', H' P = some (.tbl q') ∧ TriplesOk q'.toList) (ho : ∀ b, b ≠ P → H' b = H b) : SR K Y σ H' M ρ ∧ Stp H M H' M := by
  obtain ⟨q', e', t'⟩ := hP'
  have ne : ∀ {b : Addr} {o : HO}, NT o → H b = some o → b ≠ P := fun {b o} t e z => by
    rw [z, hP] at e
    exact t q (Option.some.inj e).symm
  have st : Stp H M H' M := ⟨fun b u n t r => by
    rcases r with r | ⟨x, r⟩
    · exact .inl (by rw [ho b (ne t r)]; exact r)
    · exact .inr ⟨x, by rw [ho b (ne (fun q z => by cases z) r)]; exact r⟩, fun b o n q r => by
    rw [ho b (ne (fun q' z => by rw [z] at q; exact q) r)]; exact r, fun _ h => .inl h, fun b h => by
    by_cases hb : b = P
    · rw [hb, e']; intro z; cases z
    · rw [ho b hb]; exact h⟩
  refine ⟨⟨s.len, fun b o n m t e => ?_, ⟨fun b q1 e => ?_, fun p hp => ?_⟩, s.m0, s.w0, s.lw, s.wl, s.mle, s.st0.trans st, fun b h => st.al b (s.al b h), fun i c e => ?_, s.inj, s.own, s.lst⟩, st⟩
  · have e1 := s.keep b o n m t e
    rw [ho b (ne t e1)]; exact e1
  · obtain ⟨q2, e2⟩ := s.tb.tk b q1 e
    by_cases hb : b = P
    · rw [hb]; exact ⟨q', e'⟩
    · exact ⟨q2, by rw [ho b hb]; exact e2⟩
  · by_cases hb : p = P
    · rw [hb]; exact ⟨q', e', t'⟩
    · rw [ho p hb]; exact s.tb.at_ p hp
  · obtain ⟨v, e1, h⟩ := s.slot i c e
    refine ⟨v, e1, ?_⟩
    cases c with
    | val d => exact Rp.step st d v h
    | own k d =>
      obtain ⟨a, ea, m, w⟩ := h
      refine ⟨a, ea, m, w.step st (ho a fun z => ?_)⟩
      exact own_nt w q (by rw [z]; exact hP)
/-- a dict that is nobody's own is locked -/
theorem SR.lock (s : SR K Y σ H M ρ) {d : Addr} {u : HO} {od : Obj} (n : ¬ M d) (hd : H d = some u) (nt : NT u) (ns : ¬ Sq u) : SR K Y σ (upd H d (.frz od u)) M ρ ∧ Stp H M (upd H d (.frz od u)) M := by
  have st : Stp H M (upd H d (.frz od u)) M := ⟨fun b x _ t r => by
    by_cases hb : b = d
    · subst hb
      rcases r with r | ⟨y, r⟩
      · rw [hd] at r; cases r; exact .inr ⟨od, upd_same⟩
      · rw [hd] at r; cases r; exact absurd trivial ns
    · rcases r with r | ⟨y, r⟩
      · exact .inl (by rw [upd_ne hb]; exact r)
      · exact .inr ⟨y, by rw [upd_ne hb]; exact r⟩, fun b o _ q r => by
    by_cases hb : b = d
    · rw [hb, hd] at r; cases r; exact absurd q ns
    · rw [upd_ne hb]; exact r, fun _ h => .inl h, upd_al⟩
  refine ⟨⟨s.len, fun b o n1 m t e => ?_, s.tb.upd (fun q z => nt q (by rw [hd] at z; exact Option.some.inj z)), s.m0, s.w0, s.lw, s.wl, s.mle, s.st0.trans st, fun b h => upd_al b (s.al b h), fun i c e => ?_, s.inj, s.own, s.lst⟩, st⟩
  · have nb : b ≠ d := fun z => n (z ▸ s.mle b m)
    rw [upd_ne nb]
    exact s.keep b o n1 m t e
  · obtain ⟨v, e1, h⟩ := s.slot i c e
    refine ⟨v, e1, ?_⟩
    cases c with
    | val d => exact Rp.step st d v h
    | own k d' =>
      obtain ⟨a, ea, m, w⟩ := h
      exact ⟨a, ea, m, w.step st (upd_ne fun z => n (z ▸ m))⟩
end
end DL
end

section
set_option Elab.async false
set_option autoImplicit false
set_option linter.all false
set_option maxRecDepth 100000
set_option maxHeartbeats 1000000
/-! DL2: judgements by data: what an expression, a test, an argument list gives. -/
namespace DL
open PySem PySem.Spec PyProof.Rows L2

/-- what comes of it: a value and the slots, an exception of a class, or no claim -/
inductive Rs (α : Type)
  | ok (a : α) (ρ : Env)
  | exn (c : Addr) (ρ : Env)
  | bad
def Rs.bind {α β : Type} (r : Rs α) (k : α → Env → Rs β) : Rs β := match r with
  | .ok a ρ => k a ρ
  | .exn c ρ => .exn c ρ
  | .bad => .bad
inductive Arg
  | imm (d : D)
  | own (i : Nat)
def Arg.get (ρ : Env) : Arg → Option D
  | .imm d => some d
  | .own i => match ρ[i]? with
    | some (some (.own _ d)) => some d
    | _ => none
def AR (K : Gs) (H : Hp) (M : Addr → Prop) (σ : L2.St) (v : V) : Arg → Prop
  | .imm d => Rp K H M v d
  | .own i => ∃ a, v = .ref a ∧ σ[i]? = some (some (.ref a))
/-- a value as it is read now -/
def Rv (K : Gs) (H : Hp) (M : Addr → Prop) (v : V) (d : D) : Prop := Rp K H M v d ∨ ∃ k a, v = .ref a ∧ M a ∧ OwnAt K H M k a d
inductive ARs (K : Gs) (H : Hp) (M : Addr → Prop) (σ : L2.St) : List V → List Arg → Prop
  | nil : ARs K H M σ [] []
  | cons {v : V} {x : Arg} {vs : List V} {xs : List Arg} : AR K H M σ v x → ARs K H M σ vs xs → ARs K H M σ (v :: vs) (x :: xs)
inductive RvA (K : Gs) (H : Hp) (M : Addr → Prop) : List V → List D → Prop
  | nil : RvA K H M [] []
  | cons {v : V} {d : D} {vs : List V} {ds : List D} : Rv K H M v d → RvA K H M vs ds → RvA K H M (v :: vs) (d :: ds)
def getAll (ρ : Env) : List Arg → Option (List D)
  | [] => some []
  | x :: xs => match x.get ρ with
    | some d => match getAll ρ xs with
      | some ds => some (d :: ds)
      | none => none
    | none => none
def immAll : List Arg → Option (List D)
  | [] => some []
  | .imm d :: xs => match immAll xs with
    | some ds => some (d :: ds)
    | none => none
  | .own _ :: _ => none
section
variable {K : Gs} {Y : Dy} {σ : L2.St} {H H' : Hp} {M M' : Addr → Prop} {ρ : Env}
theorem Arg.get_own {i : Nat} {d : D} (h : (Arg.own i).get ρ = some d) : ∃ k, ρ[i]? = some (some (.own k d)) := by
  have h' : (match ρ[i]? with
    | some (some (.own _ d)) => some d
    | _ => none) = some d := h
  split at h'
  · rename_i k d' e; cases h'; exact ⟨_, e⟩
  · cases h'
theorem AR.rv (s : SR K Y σ H M ρ) {v : V} {x : Arg} {d : D} (h : AR K H M σ v x) (g : x.get ρ = some d) : Rv K H M v d := by
  cases x with
  | imm d' =>
    have : d' = d := Option.some.inj g
    subst this; exact .inl h
  | own i =>
    obtain ⟨k, e⟩ := Arg.get_own g
    obtain ⟨a, rfl, e2⟩ := h
    obtain ⟨v, e3, b, e4, m, w⟩ := s.slot i _ e
    rw [e2] at e3
    have : V.ref a = v := Option.some.inj (Option.some.inj e3)
    rw [← this] at e4
    cases e4
    exact .inr ⟨k, a, rfl, m, w⟩
theorem AR.step (st : Stp H M H' M') {v : V} {x : Arg} (h : AR K H M σ v x) : AR K H' M' σ v x := by
  cases x with
  | imm d => exact Rp.step st d v h
  | own i => exact h
theorem ARs.step (st : Stp H M H' M') : ∀ {vs : List V} {xs : List Arg}, ARs K H M σ vs xs → ARs K H' M' σ vs xs
  | _, _, .nil => .nil
  | _, _, .cons h r => .cons (AR.step st h) (ARs.step st r)
theorem ARs.rv (s : SR K Y σ H M ρ) : ∀ {vs : List V} {xs : List Arg} {ds : List D}, ARs K H M σ vs xs → getAll ρ xs = some ds → RvA K H M vs ds
  | _, _, _, .nil, g => by cases g; exact .nil
  | _, _, _, .cons (x := x) (xs := xs) h r, g => by
    unfold getAll at g
    cases e : x.get ρ with
    | none => rw [e] at g; cases g
    | some d =>
      rw [e] at g
      cases e2 : getAll ρ xs with
      | none => rw [e2] at g; cases g
      | some ds =>
        rw [e2] at g
        cases g
        exact .cons (h.rv s e) (ARs.rv s r e2)
theorem ARs.imm : ∀ {vs : List V} {xs : List Arg} {ds : List D}, ARs K H M σ vs xs → immAll xs = some ds → RpA K H M vs ds
  | _, _, _, .nil, g => by cases g; exact .nil
  | _, _, _, .cons (x := x) (xs := xs) h r, g => by
    cases x with
    | own i => cases g
    | imm d =>
      unfold immAll at g
      cases e2 : immAll xs with
      | none => rw [e2] at g; cases g
      | some ds =>
        rw [e2] at g
        cases g
        exact .cons h (ARs.imm r e2)
theorem Rv.seqL {v : V} {ds : List D} (h : Rv K H M v (.list ds)) : ∃ a xs, v = .ref a ∧ SqL K.K H a xs ∧ xs.length ≤ sizeLine ∧ RpA K H M xs ds := by
  rcases h with h | ⟨k, a, rfl, m, w⟩
  · exact h.seqL
  · cases k with
    | lst => obtain ⟨vs, ds', e, e2, z, r⟩ := w; cases e; exact ⟨a, vs, rfl, .of e2, z, r⟩
    | dK => obtain ⟨vs, ds', e, _⟩ := w; cases e
    | dN => obtain ⟨vs, ds', e, _⟩ := w; cases e
theorem Rv.seqT {v : V} {ds : List D} (h : Rv K H M v (.tuple ds)) : ∃ a xs, v = .ref a ∧ SqT K.K H a xs ∧ xs.length ≤ sizeLine ∧ RpA K H M xs ds := by
  rcases h with h | ⟨k, a, rfl, m, w⟩
  · exact h.seqT
  · cases k <;> obtain ⟨vs, ds', e, _⟩ := w <;> cases e
theorem Rv.dct {v : V} {ds : List (D × D)} (h : Rv K H M v (.dict ds)) : ∃ a, v = .ref a ∧ ((∃ kvs, Rd H a (.dK kvs) ∧ kvs.length ≤ sizeLine ∧ RpK K H M kvs ds) ∨ ∃ xs, Rd H a (HN K.P K.w a xs) ∧ RpN K H M xs ds) := by
  rcases h with h | ⟨k, a, rfl, m, w⟩
  · cases h with
    | dK r n z q => exact ⟨_, rfl, .inl ⟨_, r, z, q⟩⟩
    | dN r n q => exact ⟨_, rfl, .inr ⟨_, r, q⟩⟩
  · cases k with
    | lst => obtain ⟨vs, ds', e, _⟩ := w; cases e
    | dK => obtain ⟨vs, ds', e, e2, z, r⟩ := w; cases e; exact ⟨a, rfl, .inl ⟨vs, .inl e2, z, r⟩⟩
    | dN => obtain ⟨vs, ds', e, e2, r⟩ := w; cases e; exact ⟨a, rfl, .inr ⟨vs, .inl e2, r⟩⟩
theorem Rv.int {v : V} {i : Int} (h : Rv K H M v (.int i)) : v = .int i := by
  rcases h with h | ⟨k, a, rfl, m, w⟩
  · cases h; rfl
  · cases k <;> obtain ⟨vs, ds', e, _⟩ := w <;> cases e
theorem Rv.bl {v : V} {i : Bool} (h : Rv K H M v (.bool i)) : v = .bl i := by
  rcases h with h | ⟨k, a, rfl, m, w⟩
  · cases h; rfl
  · cases k <;> obtain ⟨vs, ds', e, _⟩ := w <;> cases e
theorem Rv.str {v : V} {i : Str} (h : Rv K H M v (.str i)) : v = .str i ∧ i.length ≤ sizeLine := by
  rcases h with h | ⟨k, a, rfl, m, w⟩
  · cases h with
    | str _ z => exact ⟨rfl, z⟩
  · cases k <;> obtain ⟨vs, ds', e, _⟩ := w <;> cases e
theorem Rv.non {v : V} (h : Rv K H M v .none) : v = .non := by
  rcases h with h | ⟨k, a, rfl, m, w⟩
  · cases h; rfl
  · cases k <;> obtain ⟨vs, ds', e, _⟩ := w <;> cases e
end

/-! ### what is fixed for a body -/
/-- what is wanted of an exception; the slots whose objects were lent -/
structure Cs where
  Ex : XK
  LS : List Nat
  TB : List Addr
/-- what must follow -/
def Wi {α β : Type} (K : Gs) (C : Cs) (Y : Dy) (σ : L2.St) (H : Hp) (M : Addr → Prop) (R : Env → Hp → (Addr → Prop) → β → α → Prop) (r : Rs α) (Q : β → Hp → Prop) : Prop :=
  match r with
  | .ok x ρ' => ∀ v H' M', SR K Y σ H' M' ρ' → Stp H M H' M' → R ρ' H' M' v x → Q v H'
  | .exn c ρ' => ∀ H' M', SR K Y σ H' M' ρ' → C.Ex (.ref c) none H'
  | .bad => False
theorem Wi.mono {α β : Type} {K : Gs} {C : Cs} {Y : Dy} {σ : L2.St} {H : Hp} {M : Addr → Prop} {R R' : Env → Hp → (Addr → Prop) → β → α → Prop} {r : Rs α} {Q Q' : β → Hp → Prop} (h : Wi K C Y σ H M R r Q)
    (hR : ∀ ρ' H' M' v x, R' ρ' H' M' v x → R ρ' H' M' v x) (hQ : ∀ v H', Q v H' → Q' v H') : Wi K C Y σ H M R' r Q' := by
  cases r with
  | ok x ρ' => exact fun v H' M' s st q => hQ _ _ (h v H' M' s st (hR _ _ _ _ _ q))
  | exn c ρ' => exact h
  | bad => exact h
/-- one thing behind another -/
theorem Wi.seq {α α' β β' : Type} {K : Gs} {C : Cs} {Y : Dy} {σ : L2.St} {H : Hp} {M : Addr → Prop} {R : Env → Hp → (Addr → Prop) → β → α → Prop} {R' : Env → Hp → (Addr → Prop) → β' → α' → Prop} {r : Rs α} {k : α → Env → Rs α'} {Q : β' → Hp → Prop} {Q1 : β → Hp → Prop}
    (h : Wi K C Y σ H M R' (r.bind k) Q) (hk : ∀ x ρ' v H' M', SR K Y σ H' M' ρ' → Stp H M H' M' → R ρ' H' M' v x → Wi K C Y σ H' M' R' (k x ρ') Q → Q1 v H') : Wi K C Y σ H M R r Q1 := by
  cases r with
  | ok x ρ' =>
    intro v H' M' s st q
    refine hk x ρ' v H' M' s st q ?_
    have h' : Wi K C Y σ H M R' (k x ρ') Q := h
    cases e : k x ρ' with
    | ok y ρ2 => rw [e] at h'; exact fun w H2 M2 s2 st2 q2 => h' w H2 M2 s2 (st.trans st2) q2
    | exn c ρ2 => rw [e] at h'; exact h'
    | bad => rw [e] at h'; exact h'
  | exn c ρ' => exact h
  | bad => exact h
abbrev RD (K : Gs) : Env → Hp → (Addr → Prop) → V → D → Prop := fun _ H M v d => Rp K H M v d
abbrev RA (K : Gs) (σ : L2.St) : Env → Hp → (Addr → Prop) → V → Arg → Prop := fun _ H M v x => AR K H M σ v x
abbrev RAs (K : Gs) (σ : L2.St) : Env → Hp → (Addr → Prop) → List V → List Arg → Prop := fun _ H M v x => ARs K H M σ v x
/-- a new object, owned by nobody yet -/
def RF (K : Gs) (Y : Dy) (σ : L2.St) (k : Kd) : Env → Hp → (Addr → Prop) → V → D → Prop := fun ρ H M v d => ∃ a, v = .ref a ∧ M a ∧ Y.H0 a = none ∧ (∀ i, ¬ OwnSl σ ρ i a) ∧ OwnAt K H M k a d
abbrev RB : Env → Hp → (Addr → Prop) → Bool → Bool → Prop := fun _ _ _ b x => b = x
def LsOk (C : Cs) (Y : Dy) : Prop := Y.ls.map (·.1) = C.LS ∧ Y.tb = C.TB
theorem LsOk.ne {C : Cs} {Y : Dy} (h : LsOk C Y) {i : Nat} (hi : C.LS.contains i = false) : ∀ p ∈ Y.ls, p.1 ≠ i := fun p hp e => by
  have : i ∈ C.LS := by rw [← h.1, ← e]; exact List.mem_map_of_mem hp
  have h2 : C.LS.contains i = true := by simpa using this
  rw [hi] at h2; cases h2
structure DE (X : Cx) (C : Cs) (e : Expr) (f : Env → Rs D) : Prop where
  ex : ∃ t, PE X e t ∧ ∀ (Y : Dy) (σ : L2.St) (H : Hp) (M : Addr → Prop) (ρ : Env) (Q : VK), LsOk C Y → SR (gs X) Y σ H M ρ → Wi (gs X) C Y σ H M (RD (gs X)) (f ρ) Q → t σ H Q
structure DV (X : Cx) (C : Cs) (e : Expr) (f : Env → Rs Arg) : Prop where
  ex : ∃ t, PE X e t ∧ ∀ (Y : Dy) (σ : L2.St) (H : Hp) (M : Addr → Prop) (ρ : Env) (Q : VK), LsOk C Y → SR (gs X) Y σ H M ρ → Wi (gs X) C Y σ H M (RA (gs X) σ) (f ρ) Q → t σ H Q
structure DF (X : Cx) (C : Cs) (k : Kd) (e : Expr) (f : Env → Rs D) : Prop where
  ex : ∃ t, PE X e t ∧ ∀ (Y : Dy) (σ : L2.St) (H : Hp) (M : Addr → Prop) (ρ : Env) (Q : VK), LsOk C Y → SR (gs X) Y σ H M ρ → Wi (gs X) C Y σ H M (RF (gs X) Y σ k) (f ρ) Q → t σ H Q
structure DT (X : Cx) (C : Cs) (e : Expr) (f : Env → Rs Bool) : Prop where
  ex : ∃ t, PT X e t ∧ ∀ (Y : Dy) (σ : L2.St) (H : Hp) (M : Addr → Prop) (ρ : Env) (Q : Bool → Hp → Prop), LsOk C Y → SR (gs X) Y σ H M ρ → Wi (gs X) C Y σ H M RB (f ρ) Q → t σ H Q
structure DW (X : Cx) (C : Cs) (e : Expr) (f : Env → Rs Bool) : Prop where
  ex : ∃ t, PW X e t ∧ ∀ (Y : Dy) (σ : L2.St) (H : Hp) (M : Addr → Prop) (ρ : Env) (Q : Bool → Hp → Prop), LsOk C Y → SR (gs X) Y σ H M ρ → Wi (gs X) C Y σ H M RB (f ρ) Q → t σ H Q
structure DA (X : Cx) (C : Cs) (es : List Expr) (f : Env → Rs (List Arg)) : Prop where
  ex : ∃ t, PA X es t ∧ ∀ (Y : Dy) (σ : L2.St) (H : Hp) (M : Addr → Prop) (ρ : Env) (Q : List V → Hp → Prop), LsOk C Y → SR (gs X) Y σ H M ρ → Wi (gs X) C Y σ H M (RAs (gs X) σ) (f ρ) Q → t σ H Q

section
variable {X : Cx} {C : Cs} {e a b c : Expr} {es : List Expr} {fa fb f : Env → Rs D} {ga gb : Env → Rs Arg} {ta tb : Env → Rs Bool} {pos : Pos}
def toA (f : Env → Rs D) : Env → Rs Arg := fun ρ => match f ρ with
  | .ok d ρ' => .ok (.imm d) ρ'
  | .exn c ρ' => .exn c ρ'
  | .bad => .bad
theorem DE.dv (h : DE X C e f) : DV X C e (toA f) := by
  obtain ⟨t, ht, q⟩ := h.ex
  refine ⟨t, ht, fun Y σ H M ρ Q hl s w => q Y σ H M ρ Q hl s ?_⟩
  unfold toA at w
  cases e : f ρ with
  | ok d ρ' => rw [e] at w; exact w
  | exn c ρ' => rw [e] at w; exact w
  | bad => rw [e] at w; exact w
theorem DF.de {k : Kd} (h : DF X C k e f) : DE X C e f := by
  obtain ⟨t, ht, q⟩ := h.ex
  refine ⟨t, ht, fun Y σ H M ρ Q hl s w => q Y σ H M ρ Q hl s ?_⟩
  cases e : f ρ with
  | ok d ρ' =>
    rw [e] at w
    intro v H' M' s' st ⟨a, ea, ma, h0, no, ow⟩
    subst ea
    have less : ∀ b, Mm M' a b → M' b := fun _ q => q.1
    exact w (.ref a) H' (Mm M' a) (s'.drop1 h0 no) ⟨st.kp, st.kl, fun b q => st.nw b q.1, st.al⟩ (ow.rp less fun z => z.2 rfl)
  | exn c ρ' => rw [e] at w; exact w
  | bad => rw [e] at w; exact w
/-- a constant -/
def dC (d : D) : Env → Rs D := fun ρ => .ok d ρ
theorem de_int {i : Int} {j : Nat} : DE X C (.Constant (.int i) j pos) (dC (.int i)) :=
  ⟨_, pe_int, fun Y σ H M ρ Q hl s w => w _ H M s .refl (.int i)⟩
theorem de_bl {i : Bool} {j : Nat} : DE X C (.Constant (.bool i) j pos) (dC (.bool i)) :=
  ⟨_, pe_bl, fun Y σ H M ρ Q hl s w => w _ H M s .refl (.bl i)⟩
theorem de_non {j : Nat} : DE X C (.Constant .none j pos) (dC .none) :=
  ⟨_, pe_non, fun Y σ H M ρ Q hl s w => w _ H M s .refl .non⟩
theorem de_str {x : Str} {j : Nat} (hz : x.length ≤ sizeLine := by decide) : DE X C (.Constant (.str x) j pos) (dC (.str x)) :=
  ⟨_, pe_str, fun Y σ H M ρ Q hl s w => w _ H M s .refl (.str x hz)⟩
/-- a constant of the module: a number, a text, truth, None -/
theorem de_globI {x : Str} {i : Int} {u : Value} (hg : Gl X x) (hm : X.mg x = some u) (r : RelV (.int i) u) (hd : (x == ("__debug__" : Str)) = false := by decide) : DE X C (.Name x pos) (dC (.int i)) :=
  ⟨_, pe_glob hg hm r hd, fun Y σ H M ρ Q hl s w => w _ H M s .refl (.int i)⟩
theorem de_globS {x : Str} {i : Str} {u : Value} (hg : Gl X x) (hm : X.mg x = some u) (r : RelV (.str i) u) (hz : i.length ≤ sizeLine := by decide) (hd : (x == ("__debug__" : Str)) = false := by decide) : DE X C (.Name x pos) (dC (.str i)) :=
  ⟨_, pe_glob hg hm r hd, fun Y σ H M ρ Q hl s w => w _ H M s .refl (.str i hz)⟩
/-- a name of the def: a value; what it owns, read; what it owns, given away -/
def dVar (i : Nat) : Env → Rs D := fun ρ => match ρ[i]? with
  | some (some (.val d)) => .ok d ρ
  | _ => .bad
def dOwn (i : Nat) : Env → Rs Arg := fun ρ => match ρ[i]? with
  | some (some (.own _ _)) => .ok (.own i) ρ
  | _ => .bad
def dMove (i : Nat) : Env → Rs D := fun ρ => match ρ[i]? with
  | some (some (.own _ d)) => .ok d (ρ.set i none)
  | _ => .bad
theorem de_var {i : Nat} {x : Str} (hN : X.N[i]? = some x) (hv : Vis X.env.scope x) (hd : (x == ("__debug__" : Str)) = false := by decide) (hcd : (x == ("__classdict__" : Str)) = false := by decide) : DE X C (.Name x pos) (dVar i) := by
  refine ⟨_, pe_var hN hv hd hcd, fun Y σ H M ρ Q hl s w => ?_⟩
  unfold dVar at w
  split at w
  · rename_i d e
    obtain ⟨v, e1, r⟩ := s.slot i _ e
    exact ⟨v, e1, w v H M s .refl r⟩
  · exact w.elim
theorem dv_own {i : Nat} {x : Str} (hN : X.N[i]? = some x) (hv : Vis X.env.scope x) (hd : (x == ("__debug__" : Str)) = false := by decide) (hcd : (x == ("__classdict__" : Str)) = false := by decide) : DV X C (.Name x pos) (dOwn i) := by
  refine ⟨_, pe_var hN hv hd hcd, fun Y σ H M ρ Q hl s w => ?_⟩
  unfold dOwn at w
  split at w
  · rename_i k d e
    obtain ⟨v, e1, a, rfl, m, r⟩ := s.slot i _ e
    exact ⟨_, e1, w _ H M s .refl ⟨a, rfl, e1⟩⟩
  · exact w.elim
theorem de_move {i : Nat} {x : Str} (hN : X.N[i]? = some x) (hv : Vis X.env.scope x) (hi : C.LS.contains i = false) (hd : (x == ("__debug__" : Str)) = false := by decide) (hcd : (x == ("__classdict__" : Str)) = false := by decide) : DE X C (.Name x pos) (dMove i) := by
  refine ⟨_, pe_var hN hv hd hcd, fun Y σ H M ρ Q hl s w => ?_⟩
  unfold dMove at w
  split at w
  · rename_i k d e
    obtain ⟨v, e1, a, rfl, m, r⟩ := s.slot i _ e
    have os : OwnSl σ ρ i a := ⟨⟨k, d, e⟩, e1⟩
    have h0 := s.mine os (hl.ne hi)
    have less : ∀ b, Mm M a b → M b := fun _ q => q.1
    have s1 := s.kill i (hl.ne hi)
    have no : ∀ j, ¬ OwnSl σ (ρ.set i none) j a := fun j q => by
      obtain ⟨⟨k', d', e3⟩, e4⟩ := q
      rcases getElem?_set' e3 with ⟨_, _, e5⟩ | ⟨n, e5⟩
      · cases e5
      · exact n (s.inj j i a ⟨⟨k', d', e5⟩, e4⟩ os)
    exact ⟨_, e1, w _ H (Mm M a) (s1.drop1 h0 no) (.less less) (r.rp less fun z => z.2 rfl)⟩
  · exact w.elim
end
end DL
end

section
set_option Elab.async false
set_option autoImplicit false
set_option linter.all false
set_option maxRecDepth 100000
set_option maxHeartbeats 1000000
/-! DL3: operators, tests, argument lists, displays, subscripts, by data. -/
namespace DL
open PySem PySem.Spec PyProof.Rows L2

def opt {α : Type} (o : Option α) (ρ : Env) : Rs α := match o with
  | some z => .ok z ρ
  | none => .bad
def get2 {α : Type} (g : D → D → Option α) (x y : Arg) (ρ : Env) : Option α := (x.get ρ).bind fun d => (y.get ρ).bind fun e => g d e
theorem bind_some {α β : Type} {o : Option α} {f : α → Option β} {z : β} (h : o.bind f = some z) : ∃ x, o = some x ∧ f x = some z := by
  cases o with
  | none => cases h
  | some x => exact ⟨x, rfl, h⟩
theorem get2_some {α : Type} {g : D → D → Option α} {x y : Arg} {ρ : Env} {z : α} (h : get2 g x y ρ = some z) : ∃ d e, x.get ρ = some d ∧ y.get ρ = some e ∧ g d e = some z := by
  obtain ⟨d, h1, h2⟩ := bind_some h
  obtain ⟨e, h3, h4⟩ := bind_some h2
  exact ⟨d, e, h1, h3, h4⟩
section
variable {K : Gs} {C : Cs} {Y : Dy} {σ : L2.St} {H : Hp} {M : Addr → Prop} {ρ : Env}
/-- at the end of an operation -/
theorem Wi.optD {o : Option D} {Q : VK} (w : Wi K C Y σ H M (RD K) (opt o ρ) Q) (s : SR K Y σ H M ρ) : ∃ z, o = some z ∧ ∀ v H', Same H H' → Rp K H' M v z → Q v H' := by
  cases o with
  | none => exact w.elim
  | some z => exact ⟨z, rfl, fun v H' g r => w v H' M (s.grow g) (.grow g) r⟩
theorem Wi.optB {o : Option Bool} {Q : Bool → Hp → Prop} (w : Wi K C Y σ H M RB (opt o ρ) Q) (s : SR K Y σ H M ρ) : ∃ z, o = some z ∧ Q z H := by
  cases o with
  | none => exact w.elim
  | some z => exact ⟨z, rfl, w z H M s .refl rfl⟩
end

/-- an operator's rule, by data -/
def OpD (X : Cx) (r : R2) (g : D → D → Option D) : Prop :=
  ∀ (H : Hp) (M : Addr → Prop) (x y : V) (d e z : D) (Q : VK), (∀ a, M a → H a ≠ none) → Rv (gs X) H M x d → Rv (gs X) H M y e → g d e = some z → (∀ v H', Same H H' → Rp (gs X) H' M v z → Q v H') → r x y H Q
def dBin (g : D → D → Option D) (fa fb : Env → Rs Arg) : Env → Rs D := fun ρ => (fa ρ).bind fun x ρ1 => (fb ρ1).bind fun y ρ2 => opt (get2 g x y ρ2) ρ2
def dBinT (g : D → D → Option D) (fa fb : Env → Rs Arg) : Env → Rs Bool := fun ρ => (fa ρ).bind fun x ρ1 => (fb ρ1).bind fun y ρ2 => opt ((get2 g x y ρ2).bind fun z => match z with
  | .bool b => some b
  | _ => none) ρ2
def orR (r r' : R2) : R2 := fun x y H Q => r x y H Q ∨ r' x y H Q
section
variable {X : Cx} {C : Cs} {e a b c : Expr} {es : List Expr} {fa fb : Env → Rs Arg} {f f' : Env → Rs D} {ta tb : Env → Rs Bool} {g : D → D → Option D} {pos : Pos}
theorem bin_core {tx ty : TE} (qa : ∀ (Y : Dy) (σ : L2.St) (H : Hp) (M : Addr → Prop) (ρ : Env) (Q : VK), LsOk C Y → SR (gs X) Y σ H M ρ → Wi (gs X) C Y σ H M (RA (gs X) σ) (fa ρ) Q → tx σ H Q)
    (qb : ∀ (Y : Dy) (σ : L2.St) (H : Hp) (M : Addr → Prop) (ρ : Env) (Q : VK), LsOk C Y → SR (gs X) Y σ H M ρ → Wi (gs X) C Y σ H M (RA (gs X) σ) (fb ρ) Q → ty σ H Q)
    {α β : Type} {R : Env → Hp → (Addr → Prop) → β → α → Prop} {k : Arg → Arg → Env → Rs α} {Q : β → Hp → Prop} {Q1 : V → V → Hp → Prop} {Y : Dy} {σ : L2.St} {H : Hp} {M : Addr → Prop} {ρ : Env} (hl : LsOk C Y) (s : SR (gs X) Y σ H M ρ)
    (w : Wi (gs X) C Y σ H M R ((fa ρ).bind fun x ρ1 => (fb ρ1).bind fun y ρ2 => k x y ρ2) Q)
    (hk : ∀ x y ρ2 v u H2 M2, SR (gs X) Y σ H2 M2 ρ2 → Stp H M H2 M2 → AR (gs X) H2 M2 σ v x → AR (gs X) H2 M2 σ u y → Wi (gs X) C Y σ H2 M2 R (k x y ρ2) Q → Q1 v u H2) : tx σ H fun x H1 => ty σ H1 fun y H2 => Q1 x y H2 := by
  refine qa Y σ H M ρ _ hl s (Wi.seq w fun x ρ1 v H1 M1 s1 st1 r1 w1 => ?_)
  refine qb Y σ H1 M1 ρ1 _ hl s1 (Wi.seq w1 fun y ρ2 u H2 M2 s2 st2 r2 w2 => ?_)
  exact hk x y ρ2 v u H2 M2 s2 (st1.trans st2) (AR.step st2 r1) r2 w2
theorem de_bin {op : Operator} {r : R2} (ho : OpR X (binaryOp op) r) (hg : OpD X r g) (ha : DV X C a fa) (hb : DV X C b fb) : DE X C (.BinOp a op b pos) (dBin g fa fb) := by
  obtain ⟨tx, px, qx⟩ := ha.ex
  obtain ⟨ty, py, qy⟩ := hb.ex
  refine ⟨_, pe_op ho px py, fun Y σ H M ρ Q hl s w => ?_⟩
  refine bin_core qx qy hl s w fun x y ρ2 v u H2 M2 s2 st r1 r2 w2 => ?_
  obtain ⟨z, ez, q⟩ := w2.optD s2
  obtain ⟨d, e, h1, h2, h3⟩ := get2_some ez
  exact hg H2 M2 v u d e z Q s2.al (r1.rv s2 h1) (r2.rv s2 h2) h3 q
theorem de_cmp {op : CmpOp} {r : R2} (ho : OpR X (compareOp op) r) (hg : OpD X r g) (ha : DV X C a fa) (hb : DV X C b fb) (hm : behindInMarks op b = false) : DE X C (.Compare a [op] [b] pos) (dBin g fa fb) := by
  obtain ⟨tx, px, qx⟩ := ha.ex
  obtain ⟨ty, py, qy⟩ := hb.ex
  refine ⟨_, pe_cmpR ho px py hm, fun Y σ H M ρ Q hl s w => ?_⟩
  refine bin_core qx qy hl s w fun x y ρ2 v u H2 M2 s2 st r1 r2 w2 => ?_
  obtain ⟨z, ez, q⟩ := w2.optD s2
  obtain ⟨d, e, h1, h2, h3⟩ := get2_some ez
  exact hg H2 M2 v u d e z Q s2.al (r1.rv s2 h1) (r2.rv s2 h2) h3 q
theorem dt_cmp {op : CmpOp} {r : R2} (ho : OpR X (compareOp op) r) (hg : OpD X r g) (ha : DV X C a fa) (hb : DV X C b fb) (hm : behindInMarks op b = false) : DT X C (.Compare a [op] [b] pos) (dBinT g fa fb) := by
  obtain ⟨tx, px, qx⟩ := ha.ex
  obtain ⟨ty, py, qy⟩ := hb.ex
  refine ⟨_, pt_cmpR ho px py hm, fun Y σ H M ρ Q hl s w => ?_⟩
  refine bin_core qx qy hl s w fun x y ρ2 v u H2 M2 s2 st r1 r2 w2 => ?_
  cases ez : get2 g x y ρ2 with
  | none => rw [ez] at w2; exact w2.elim
  | some z =>
    rw [ez] at w2
    obtain ⟨d, e, h1, h2, h3⟩ := get2_some ez
    refine hg H2 M2 v u d e z _ s2.al (r1.rv s2 h1) (r2.rv s2 h2) h3 fun v H' g r => ?_
    cases z with
    | bool k =>
      cases r
      exact ⟨k, rfl, w2 k H' M2 (s2.grow g) (.grow g) rfl⟩
    | _ => exact w2.elim
/-- an own or other value's truth -/
def truD : D → Option Bool
  | .none => some false
  | .bool b => some b
  | .int i => some (i != 0)
  | .str x => some ((x.length : Int) != 0)
  | .list xs => some (!xs.isEmpty)
  | .tuple xs => some (!xs.isEmpty)
  | .dict _ => none
def dTruth (fa : Env → Rs Arg) : Env → Rs Bool := fun ρ => (fa ρ).bind fun x ρ1 => opt ((x.get ρ1).bind truD) ρ1
theorem isEmpty_RpA {K : Gs} {H : Hp} {M : Addr → Prop} {xs : List V} {ds : List D} (r : RpA K H M xs ds) : xs.isEmpty = ds.isEmpty := by cases r <;> rfl
theorem dt_truth (ha : DV X C a fa) (he : ∀ whole, isTrue a X.env whole = (do let v ← whole; standAt a.pos; holding [v] (truthy v)) := by intro _; rfl) : DT X C a (dTruth fa) := by
  obtain ⟨tx, px, qx⟩ := ha.ex
  refine ⟨_, pt_truth px he, fun Y σ H M ρ Q hl s w => ?_⟩
  refine qx Y σ H M ρ _ hl s (Wi.seq w fun x ρ1 v H1 M1 s1 st1 r1 w1 => ?_)
  obtain ⟨k, ek, q⟩ := w1.optB s1
  obtain ⟨d, h1, h2⟩ := bind_some ek
  refine ⟨k, ?_, q⟩
  have rv := r1.rv s1 h1
  cases d with
  | none => rw [rv.non]; cases h2; exact rfl
  | bool b => rw [rv.bl]; cases h2; exact rfl
  | int i => rw [rv.int]; cases h2; exact rfl
  | str x => rw [rv.str.1]; cases h2; exact ⟨rv.str.2, rfl⟩
  | list ds =>
    obtain ⟨p, xs, rfl, hp, _, r⟩ := rv.seqL
    cases h2
    exact .inl ⟨xs, hp, by rw [isEmpty_RpA r]⟩
  | tuple ds =>
    obtain ⟨p, xs, rfl, hp, _, r⟩ := rv.seqT
    cases h2
    exact .inr (.inl ⟨xs, hp, by rw [isEmpty_RpA r]⟩)
  | dict ds => cases h2
/-- a bool value as a test -/
def dTest (f : Env → Rs D) : Env → Rs Bool := fun ρ => (f ρ).bind fun d ρ1 => match d with
  | .bool b => .ok b ρ1
  | _ => .bad
theorem dt_val (h : DE X C e f) (he : ∀ whole, isTrue e X.env whole = (do let v ← whole; standAt e.pos; holding [v] (truthy v)) := by intro _; rfl) : DT X C e (dTest f) := by
  obtain ⟨tx, px, qx⟩ := h.ex
  refine ⟨_, pt_val px he, fun Y σ H M ρ Q hl s w => ?_⟩
  refine qx Y σ H M ρ _ hl s (Wi.seq w fun x ρ1 v H1 M1 s1 st1 r1 w1 => ?_)
  cases x with
  | bool b =>
    cases r1
    exact ⟨b, rfl, w1 b H1 M1 s1 .refl rfl⟩
  | _ => exact w1.elim
def dNotT (t : Env → Rs Bool) : Env → Rs Bool := fun ρ => (t ρ).bind fun k ρ1 => .ok (!k) ρ1
theorem dt_not (h : DT X C a ta) : DT X C (.UnaryOp .Not a pos) (dNotT ta) := by
  obtain ⟨tx, px, qx⟩ := h.ex
  refine ⟨_, pt_not px, fun Y σ H M ρ Q hl s w => ?_⟩
  refine qx Y σ H M ρ _ hl s (Wi.seq w fun x ρ1 v H1 M1 s1 st1 r1 w1 => ?_)
  have e : v = x := r1
  rw [e]
  exact w1 _ H1 M1 s1 .refl rfl
def dAndT (t u : Env → Rs Bool) : Env → Rs Bool := fun ρ => (t ρ).bind fun k ρ1 => if k = true then u ρ1 else .ok false ρ1
def dOrT (t u : Env → Rs Bool) : Env → Rs Bool := fun ρ => (t ρ).bind fun k ρ1 => if k = true then .ok true ρ1 else u ρ1
theorem DW.dt (h : DW X C a ta) : DT X C a ta := by
  obtain ⟨tx, px, qx⟩ := h.ex
  exact ⟨_, px.pt, qx⟩
theorem dw_and1 (h : DT X C a ta) : DW X C (.BoolOp .And [a] pos) ta := by
  obtain ⟨tx, px, qx⟩ := h.ex
  exact ⟨_, pw_and1 px, qx⟩
theorem dw_or1 (h : DT X C a ta) : DW X C (.BoolOp .Or [a] pos) ta := by
  obtain ⟨tx, px, qx⟩ := h.ex
  exact ⟨_, pw_or1 px, qx⟩
theorem dw_and {rest : List Expr} (h : DT X C a ta) (h2 : DW X C (.BoolOp .And (b :: rest) pos) tb) : DW X C (.BoolOp .And (a :: b :: rest) pos) (dAndT ta tb) := by
  obtain ⟨tx, px, qx⟩ := h.ex
  obtain ⟨ty, py, qy⟩ := h2.ex
  refine ⟨_, pw_and px py, fun Y σ H M ρ Q hl s w => ?_⟩
  refine qx Y σ H M ρ _ hl s (Wi.seq w fun x ρ1 v H1 M1 s1 st1 r1 w1 => ?_)
  have e : v = x := r1
  subst e
  cases v with
  | true => exact qy Y σ H1 M1 ρ1 Q hl s1 w1
  | false => exact w1 false H1 M1 s1 .refl rfl
theorem dw_or {rest : List Expr} (h : DT X C a ta) (h2 : DW X C (.BoolOp .Or (b :: rest) pos) tb) : DW X C (.BoolOp .Or (a :: b :: rest) pos) (dOrT ta tb) := by
  obtain ⟨tx, px, qx⟩ := h.ex
  obtain ⟨ty, py, qy⟩ := h2.ex
  refine ⟨_, pw_or px py, fun Y σ H M ρ Q hl s w => ?_⟩
  refine qx Y σ H M ρ _ hl s (Wi.seq w fun x ρ1 v H1 M1 s1 st1 r1 w1 => ?_)
  have e : v = x := r1
  subst e
  cases v with
  | true => exact w1 true H1 M1 s1 .refl rfl
  | false => exact qy Y σ H1 M1 ρ1 Q hl s1 w1
/-! .. as values, of bools -/
def dAnd (f f' : Env → Rs D) : Env → Rs D := fun ρ => (f ρ).bind fun d ρ1 => match d with
  | .bool true => f' ρ1
  | .bool false => .ok (.bool false) ρ1
  | _ => .bad
def dOr (f f' : Env → Rs D) : Env → Rs D := fun ρ => (f ρ).bind fun d ρ1 => match d with
  | .bool false => f' ρ1
  | .bool true => .ok (.bool true) ρ1
  | _ => .bad
def dNot (f : Env → Rs D) : Env → Rs D := fun ρ => (f ρ).bind fun d ρ1 => match d with
  | .bool b => .ok (.bool (!b)) ρ1
  | _ => .bad
theorem de_one {op : BoolOp} (h : DE X C a f) : DE X C (.BoolOp op [a] pos) f := by
  obtain ⟨tx, px, qx⟩ := h.ex
  exact ⟨_, pe_one px, qx⟩
theorem de_and {rest : List Expr} (h : DE X C a f) (h2 : DE X C (.BoolOp .And (b :: rest) pos) f') : DE X C (.BoolOp .And (a :: b :: rest) pos) (dAnd f f') := by
  obtain ⟨tx, px, qx⟩ := h.ex
  obtain ⟨ty, py, qy⟩ := h2.ex
  refine ⟨_, pe_and px py, fun Y σ H M ρ Q hl s w => ?_⟩
  refine qx Y σ H M ρ _ hl s (Wi.seq w fun x ρ1 v H1 M1 s1 st1 r1 w1 => ?_)
  cases x with
  | bool k =>
    cases r1
    cases k with
    | true => exact ⟨true, rfl, qy Y σ H1 M1 ρ1 Q hl s1 w1⟩
    | false => exact ⟨false, rfl, w1 _ H1 M1 s1 .refl (.bl false)⟩
  | _ => exact w1.elim
theorem de_or {rest : List Expr} (h : DE X C a f) (h2 : DE X C (.BoolOp .Or (b :: rest) pos) f') : DE X C (.BoolOp .Or (a :: b :: rest) pos) (dOr f f') := by
  obtain ⟨tx, px, qx⟩ := h.ex
  obtain ⟨ty, py, qy⟩ := h2.ex
  refine ⟨_, pe_or px py, fun Y σ H M ρ Q hl s w => ?_⟩
  refine qx Y σ H M ρ _ hl s (Wi.seq w fun x ρ1 v H1 M1 s1 st1 r1 w1 => ?_)
  cases x with
  | bool k =>
    cases r1
    cases k with
    | false => exact ⟨false, rfl, qy Y σ H1 M1 ρ1 Q hl s1 w1⟩
    | true => exact ⟨true, rfl, w1 _ H1 M1 s1 .refl (.bl true)⟩
  | _ => exact w1.elim
theorem de_not (h : DE X C a f) : DE X C (.UnaryOp .Not a pos) (dNot f) := by
  obtain ⟨tx, px, qx⟩ := h.ex
  refine ⟨_, pe_not px, fun Y σ H M ρ Q hl s w => ?_⟩
  refine qx Y σ H M ρ _ hl s (Wi.seq w fun x ρ1 v H1 M1 s1 st1 r1 w1 => ?_)
  cases x with
  | bool k =>
    cases r1
    exact ⟨k, rfl, w1 _ H1 M1 s1 .refl (.bl _)⟩
  | _ => exact w1.elim
def dIfE (t : Env → Rs Bool) (f f' : Env → Rs D) : Env → Rs D := fun ρ => (t ρ).bind fun k ρ1 => if k = true then f ρ1 else f' ρ1
theorem de_if (hc : DT X C c ta) (ha : DE X C a f) (hb : DE X C b f') : DE X C (.IfExp c a b pos) (dIfE ta f f') := by
  obtain ⟨tx, px, qx⟩ := hc.ex
  obtain ⟨ty, py, qy⟩ := ha.ex
  obtain ⟨tz, pz, qz⟩ := hb.ex
  refine ⟨_, pe_ifExp px py pz, fun Y σ H M ρ Q hl s w => ?_⟩
  refine qx Y σ H M ρ _ hl s (Wi.seq w fun x ρ1 v H1 M1 s1 st1 r1 w1 => ?_)
  have e : v = x := r1
  subst e
  cases v with
  | true => exact qy Y σ H1 M1 ρ1 Q hl s1 w1
  | false => exact qz Y σ H1 M1 ρ1 Q hl s1 w1

/-! ### argument lists, displays -/
def dNil : Env → Rs (List Arg) := fun ρ => .ok [] ρ
def dCons (fa : Env → Rs Arg) (fr : Env → Rs (List Arg)) : Env → Rs (List Arg) := fun ρ => (fa ρ).bind fun x ρ1 => (fr ρ1).bind fun xs ρ2 => .ok (x :: xs) ρ2
variable {fr : Env → Rs (List Arg)}
theorem da_nil : DA X C [] dNil := ⟨_, pa_nil, fun Y σ H M ρ Q hl s w => w [] H M s .refl .nil⟩
theorem da_cons (ha : DV X C e fa) (hr : DA X C es fr) (hs : starEach (e :: es) X.env = (false, eval e X.env) :: starEach es X.env := by rfl) : DA X C (e :: es) (dCons fa fr) := by
  obtain ⟨tx, px, qx⟩ := ha.ex
  obtain ⟨ty, py, qy⟩ := hr.ex
  refine ⟨_, pa_cons px py hs, fun Y σ H M ρ Q hl s w => ?_⟩
  refine qx Y σ H M ρ _ hl s (Wi.seq w fun x ρ1 v H1 M1 s1 st1 r1 w1 => ?_)
  refine qy Y σ H1 M1 ρ1 _ hl s1 (Wi.seq w1 fun xs ρ2 vs H2 M2 s2 st2 r2 w2 => ?_)
  exact w2 (v :: vs) H2 M2 s2 .refl (.cons (AR.step st2 r1) r2)
def dTup (fr : Env → Rs (List Arg)) : Env → Rs D := fun ρ => (fr ρ).bind fun xs ρ1 => opt ((immAll xs).bind fun ds => if ds.length ≤ 16777216 then some (.tuple ds) else none) ρ1
def dLst (fr : Env → Rs (List Arg)) : Env → Rs D := fun ρ => (fr ρ).bind fun xs ρ1 => opt ((immAll xs).bind fun ds => if ds.length ≤ 16777216 then some (.list ds) else none) ρ1
theorem line_le {n : Nat} (h : n ≤ 16777216) : n ≤ sizeLine := by rw [sizeLine_eq]; exact h
theorem line_ge {n : Nat} (h : n ≤ sizeLine) : n ≤ 16777216 := by rw [sizeLine_eq] at h; exact h
theorem same_new {H : Hp} {p : Addr} {o : HO} (h : H p = none) : Same H (upd H p o) := DL.same_upd h
theorem notM {K : Gs} {Y : Dy} {σ : L2.St} {H : Hp} {M : Addr → Prop} {ρ : Env} (s : SR K Y σ H M ρ) {p : Addr} (h : H p = none) : ¬ M p := fun z => s.al p z h
theorem de_tup {x1 : Nat} (h : DA X C es fr) : DE X C (.Tuple es x1 pos) (dTup fr) := by
  obtain ⟨tx, px, qx⟩ := h.ex
  refine ⟨_, pe_tup px, fun Y σ H M ρ Q hl s w => ?_⟩
  refine qx Y σ H M ρ _ hl s (Wi.seq w fun xs ρ1 vs H1 M1 s1 st1 r1 w1 => ?_)
  obtain ⟨z, ez, q⟩ := w1.optD s1
  obtain ⟨ds, h1, h2⟩ := bind_some ez
  split at h2
  · rename_i hz
    cases h2
    have ra := r1.imm h1
    have hz' : vs.length ≤ sizeLine := by rw [ra.length]; exact line_le hz
    refine ⟨hz', fun p hp => q _ _ (same_new hp) ?_⟩
    exact .tup upd_same (notM s1 hp) hz' (ra.step (.grow (same_new hp)) _ _)
  · cases h2
theorem df_lst (h : DA X C es fr) : DF X C .lst (.List es pos) (dLst fr) := by
  obtain ⟨tx, px, qx⟩ := h.ex
  refine ⟨_, pe_lst px, fun Y σ H M ρ Q hl s w => ?_⟩
  refine qx Y σ H M ρ _ hl s (Wi.seq w fun xs ρ1 vs H1 M1 s1 st1 r1 w1 => ?_)
  cases ez : (immAll xs).bind fun ds => if ds.length ≤ 16777216 then some (PyData.list ds) else none with
  | none => rw [ez] at w1; exact w1.elim
  | some z =>
    rw [ez] at w1
    obtain ⟨ds, h1, h2⟩ := bind_some ez
    split at h2
    · rename_i hz
      cases h2
      have ra := r1.imm h1
      have hz' : vs.length ≤ sizeLine := by rw [ra.length]; exact line_le hz
      refine ⟨hz', fun p hp => w1 _ _ (Mp M1 p) (s1.more hp) (.more hp) ⟨p, rfl, .inr rfl, s1.h0none hp, fun i o => ?_, vs, ds, rfl, upd_same, hz', ra.step (.more hp) _ _⟩⟩
      exact (s1.ownM o).2 hp
    · cases h2
end
end DL
end

section
set_option Elab.async false
set_option autoImplicit false
set_option linter.all false
set_option maxRecDepth 100000
set_option maxHeartbeats 1000000
/-! DL4: what the operators do to data. -/
namespace DL
open PySem PySem.Spec PyProof.Rows L2

def dAdd : D → D → Option D
  | .int i, .int j => some (.int (i + j))
  | .str x, .str y => if x.length + y.length ≤ 16777216 then some (.str (x ++ y)) else none
  | .list xs, .list ys => if xs.length + ys.length ≤ 16777216 then some (.list (xs ++ ys)) else none
  | .tuple xs, .tuple ys => if xs.length + ys.length ≤ 16777216 then some (.tuple (xs ++ ys)) else none
  | _, _ => none
def dSub : D → D → Option D
  | .int i, .int j => some (.int (i - j))
  | _, _ => none
def mulOk (i j : Int) : Bool := decide (i.natAbs < 2 ^ 64) || decide (j.natAbs < 2 ^ 64) || decide (i.natAbs.log2 + j.natAbs.log2 < 1000000)
def dMul : D → D → Option D
  | .int i, .int j => if mulOk i j = true then some (.int (i * j)) else none
  | _, _ => none
def divOk (j : Int) : Bool := decide (j.natAbs < 1073741824) || (decide (0 < j) && decide (j.natAbs.log2 < 9000))
def dFdiv : D → D → Option D
  | .int i, .int j => if j ≠ 0 ∧ divOk j = true then some (.int (i.fdiv j)) else none
  | _, _ => none
def dMod : D → D → Option D
  | .int i, .int j => if j ≠ 0 then some (.int (i.fmod j)) else none
  | _, _ => none
def dPow : D → D → Option D
  | .int i, .int j => if 0 ≤ j ∧ j ≤ 1000000 ∧ i.natAbs < 2 ^ 64 then some (.int (i ^ j.toNat)) else none
  | _, _ => none
def dEq (d e : D) : Option D := if SeqAt.shaped d = true ∧ SeqAt.shaped e = true then some (.bool (PyData.eqv d e)) else none
def dNe (d e : D) : Option D := if SeqAt.shaped d = true ∧ SeqAt.shaped e = true then some (.bool (!PyData.eqv d e)) else none
def dLt : D → D → Option D
  | .int i, .int j => some (.bool (decide (i < j)))
  | .str x, .str y => some (.bool (decide (x.cps.toList < y.cps.toList)))
  | _, _ => none
def dLe : D → D → Option D
  | .int i, .int j => some (.bool (decide (i ≤ j)))
  | _, _ => none
def dGt : D → D → Option D
  | .int i, .int j => some (.bool (decide (j < i)))
  | _, _ => none
def dGe : D → D → Option D
  | .int i, .int j => some (.bool (decide (j ≤ i)))
  | _, _ => none
def isN : D → Bool
  | .none => true
  | _ => false
def dIs : D → D → Option D
  | d, .none => some (.bool (isN d))
  | .bool a, .bool b => some (.bool (decide (a = b)))
  | _, _ => none
def dIsNot : D → D → Option D
  | d, .none => some (.bool (!isN d))
  | .bool a, .bool b => some (.bool (!decide (a = b)))
  | _, _ => none

section
variable {K : Gs} {H : Hp} {M : Addr → Prop}
mutual
theorem Rp.dp : ∀ (d : D) (v : V), Rp K H M v d → d.canLay0 = true → Dp K.K H v d
  | .none, _, h, _ => by cases h; exact .non
  | .bool b, _, h, _ => by cases h; exact .bl b
  | .int i, _, h, _ => by cases h; exact .int i
  | .str x, _, h, _ => by cases h; exact .str x
  | .list ds, _, h, c => by
    cases h with
    | lstC e q => exact .lst e.sq (RpA.dp ds _ q (by simpa [PyData.canLay0] using c))
    | lst r n z q => exact .lst (.inl r) (RpA.dp ds _ q (by simpa [PyData.canLay0] using c))
  | .tuple ds, _, h, c => by
    cases h with
    | tup r n z q => exact .tup (.of r) (RpA.dp ds _ q (by simpa [PyData.canLay0] using c))
    | tupC e q => exact .tup e.sq (RpA.dp ds _ q (by simpa [PyData.canLay0] using c))
  | .dict ds, _, h, c => by simp [PyData.canLay0] at c
theorem RpA.dp : ∀ (ds : List D) (vs : List V), RpA K H M vs ds → PyData.canLayAll0 ds = true → DpAll K.K H vs ds
  | [], _, h, _ => by cases h; exact .nil
  | d :: ds, _, h, c => by
    simp only [PyData.canLayAll0, Bool.and_eq_true] at c
    cases h with
    | cons q r => exact .cons (Rp.dp d _ q c.1) (RpA.dp ds _ r c.2)
end
theorem Rv.dp {d : D} {v : V} (h : Rv K H M v d) (c : d.canLay0 = true) : Dp K.K H v d := by
  rcases h with h | ⟨k, a, rfl, m, w⟩
  · exact Rp.dp d v h c
  · cases k with
    | lst =>
      obtain ⟨vs, ds, rfl, e2, z, r⟩ := w
      exact .lst (.of e2) (RpA.dp ds _ r (by simpa [PyData.canLay0] using c))
    | dK => obtain ⟨vs, ds, rfl, _⟩ := w; simp [PyData.canLay0] at c
    | dN => obtain ⟨vs, ds, rfl, _⟩ := w; simp [PyData.canLay0] at c
end

section
variable {X : Cx}
/-- list + list, however they stand -/
def rCatq (K : PySem.W.Frag) : R2 := fun x y H Q => ∃ l b xs zs, x = .ref l ∧ y = .ref b ∧ SqL K H l xs ∧ SqL K H b zs ∧ xs.length + zs.length ≤ sizeLine ∧ ∀ p, H p = none → Q (.ref p) (upd H p (.lst (xs ++ zs)))
theorem op_catq : OpR X (binaryOp .Add) (rCatq X.K) := by
  intro pins s σ H x y v u Q I rx ry h
  obtain ⟨l, b, xs, zs, rfl, rfl, hH, hB, hz, q⟩ := h
  cases rx
  cases ry
  obtain ⟨its, r, ⟨⟨cls, dd, data, sl⟩, n, ho, hc, _, hd⟩, _⟩ := I.list hH
  obtain ⟨its2, r2, ⟨⟨cls2, dd2, data2, sl2⟩, n2, ho2, hc2, _, hd2⟩, _⟩ := I.list hB
  simp only at hc hd hc2 hd2
  subst hc hd hc2 hd2
  have ea : its.toArray ++ its2.toArray = (its ++ its2).toArray := by simp
  have l1 := r.length
  have l2 := r2.length
  refine PySem.concat_meets ⟨_, ho, rfl⟩ ⟨_, ho2, rfl⟩ PySem.noFill_list_add PySem.seq_list_add PySem.F.slot_list_add PySem.F.entry_list_add (PySem.F.args_list_add_2 _ _) (list_addW l b its.toArray its2.toArray n n2 dd dd2 sl sl2 (by rw [List.size_toArray, List.size_toArray]; omega)) ⟨ho, ho2, ?_⟩
  rw [ea]
  exact ⟨.ref _, _, I.lnew (t' := s.toks) (r.append r2) (by rw [List.length_append]; omega), rfl, q _ I.fresh⟩
theorem or_add : OpR X (binaryOp .Add) (orR (rI0 fun i j => .int (i + j)) (orR (fun x y H Q => ∃ i j, x = .str i ∧ y = .str j ∧ i.length + j.length ≤ sizeLine ∧ Q (.str (i ++ j)) H) (orR (rCatq X.K) (rCatA X.K)))) :=
  op_add.or (op_add_str.or (op_catq.or op_catA))
theorem od_add : OpD X (orR (rI0 fun i j => .int (i + j)) (orR (fun x y H Q => ∃ i j, x = .str i ∧ y = .str j ∧ i.length + j.length ≤ sizeLine ∧ Q (.str (i ++ j)) H) (orR (rCatq X.K) (rCatA X.K)))) dAdd := by
  intro H M x y d e z Q al hx hy hg q
  unfold dAdd at hg
  split at hg
  · cases hg
    exact .inl ⟨_, _, hx.int, hy.int, q _ _ (Same.refl _) (.int _)⟩
  · split at hg
    · rename_i hz
      cases hg
      exact .inr (.inl ⟨_, _, hx.str.1, hy.str.1, line_le hz, q _ _ (Same.refl _) (.str _ (by rw [Str.length_append]; exact line_le hz))⟩)
    · cases hg
  · split at hg
    · rename_i hz
      cases hg
      obtain ⟨a, vs, rfl, ea, _, ra⟩ := hx.seqL
      obtain ⟨b, ws, rfl, eb, _, rb⟩ := hy.seqL
      have hl : vs.length + ws.length ≤ sizeLine := by rw [ra.length, rb.length]; exact line_le hz
      refine .inr (.inr (.inl ⟨a, b, vs, ws, rfl, rfl, ea, eb, hl, fun p hp => q _ _ (same_new hp) ?_⟩))
      exact .lst (.inl upd_same) (fun m => al p m hp) (by rw [List.length_append]; exact hl) ((ra.append rb).step (.grow (same_new hp)) _ _)
    · cases hg
  · split at hg
    · rename_i xs ys hz
      cases hg
      obtain ⟨a, vs, rfl, ea, _, ra⟩ := hx.seqT
      obtain ⟨b, ws, rfl, eb, _, rb⟩ := hy.seqT
      have hl : vs.length + ws.length ≤ sizeLine := by rw [ra.length, rb.length]; exact line_le hz
      have hx' : Rp (gs X) H M (.ref a) (.tuple xs) := by
        rcases hx with h | ⟨k, c, e1, m, w⟩
        · exact h
        · cases k <;> obtain ⟨vs, ds', e, _⟩ := w <;> cases e
      have hy' : Rp (gs X) H M (.ref b) (.tuple ys) := by
        rcases hy with h | ⟨k, c, e1, m, w⟩
        · exact h
        · cases k <;> obtain ⟨vs, ds', e, _⟩ := w <;> cases e
      refine .inr (.inr (.inr ⟨a, b, vs, ws, rfl, rfl, ea, eb, hl, fun h0 => ?_, fun _ h0 => ?_, fun _ _ p hp => q _ _ (same_new hp) ?_⟩))
      · subst h0
        cases ra
        exact q _ _ (Same.refl _) hy'
      · subst h0
        cases rb
        rw [List.append_nil] at q
        exact q _ _ (Same.refl _) hx'
      · exact .tup upd_same (fun m => al p m hp) (by rw [List.length_append]; exact hl) ((ra.append rb).step (.grow (same_new hp)) _ _)
    · cases hg
  · cases hg
theorem od_sub : OpD X (rI0 fun i j => .int (i - j)) dSub := by
  intro H M x y d e z Q al hx hy hg q
  unfold dSub at hg
  split at hg
  · cases hg
    exact ⟨_, _, hx.int, hy.int, q _ _ (Same.refl _) (.int _)⟩
  · cases hg
theorem or_mul : OpR X (binaryOp .Mult) (orR (rI CMul fun i j => .int (i * j)) (orR (rI CMulW fun i j => .int (i * j)) rRep)) := op_mul.or (op_mulW.or op_rep)
theorem od_mul : OpD X (orR (rI CMul fun i j => .int (i * j)) (orR (rI CMulW fun i j => .int (i * j)) rRep)) dMul := by
  intro H M x y d e z Q al hx hy hg q
  unfold dMul at hg
  split at hg
  · rename_i i j
    split at hg
    · rename_i hc
      cases hg
      unfold mulOk at hc
      simp only [Bool.or_eq_true, decide_eq_true_eq] at hc
      rcases hc with (hc | hc) | hc
      · exact .inl ⟨_, _, hx.int, hy.int, .inl ⟨by omega, by omega⟩, q _ _ (Same.refl _) (.int _)⟩
      · exact .inl ⟨_, _, hx.int, hy.int, .inr ⟨by omega, by omega⟩, q _ _ (Same.refl _) (.int _)⟩
      · exact .inr (.inl ⟨_, _, hx.int, hy.int, hc, q _ _ (Same.refl _) (.int _)⟩)
    · cases hg
  · cases hg
theorem or_fdiv : OpR X (binaryOp .FloorDiv) (orR (rI CDivN fun i j => .int (i.fdiv j)) (rI CDivW fun i j => .int (i / j))) := op_fdivN.or op_fdivW
theorem od_fdiv : OpD X (orR (rI CDivN fun i j => .int (i.fdiv j)) (rI CDivW fun i j => .int (i / j))) dFdiv := by
  intro H M x y d e z Q al hx hy hg q
  unfold dFdiv at hg
  split at hg
  · rename_i i j
    split at hg
    · rename_i hc
      cases hg
      obtain ⟨h0, h1⟩ := hc
      unfold divOk at h1
      simp only [Bool.or_eq_true, Bool.and_eq_true, decide_eq_true_eq] at h1
      rcases h1 with h1 | ⟨h1, h2⟩
      · exact .inl ⟨_, _, hx.int, hy.int, ⟨h0, h1⟩, q _ _ (Same.refl _) (.int _)⟩
      · refine .inr ⟨_, _, hx.int, hy.int, ⟨h1, h2⟩, q _ _ (Same.refl _) ?_⟩
        rw [Int.fdiv_eq_ediv_of_nonneg i (by omega)]
        exact .int _
    · cases hg
  · cases hg
theorem od_mod : OpD X (rI (fun _ j => j ≠ 0) fun i j => .int (i.fmod j)) dMod := by
  intro H M x y d e z Q al hx hy hg q
  unfold dMod at hg
  split at hg
  · split at hg
    · rename_i hc
      cases hg
      exact ⟨_, _, hx.int, hy.int, hc, q _ _ (Same.refl _) (.int _)⟩
    · cases hg
  · cases hg
theorem od_pow : OpD X (rI CPow fun i j => .int (i ^ j.toNat)) dPow := by
  intro H M x y d e z Q al hx hy hg q
  unfold dPow at hg
  split at hg
  · split at hg
    · rename_i hc
      cases hg
      exact ⟨_, _, hx.int, hy.int, hc, q _ _ (Same.refl _) (.int _)⟩
    · cases hg
  · cases hg
theorem od_eq : OpD X (rEqD X.K) dEq := by
  intro H M x y d e z Q al hx hy hg q
  unfold dEq at hg
  split at hg
  · rename_i hc
    cases hg
    exact ⟨d, e, hx.dp (SeqAt.canLay_of_shaped hc.1), hy.dp (SeqAt.canLay_of_shaped hc.2), hc.1, hc.2, q _ _ (Same.refl _) (.bl _)⟩
  · cases hg
theorem od_ne : OpD X (rNeD X.K) dNe := by
  intro H M x y d e z Q al hx hy hg q
  unfold dNe at hg
  split at hg
  · rename_i hc
    cases hg
    exact ⟨d, e, hx.dp (SeqAt.canLay_of_shaped hc.1), hy.dp (SeqAt.canLay_of_shaped hc.2), hc.1, hc.2, q _ _ (Same.refl _) (.bl _)⟩
  · cases hg
theorem or_lt : OpR X (compareOp .Lt) (orR (rI0 fun i j => .bl (decide (i < j))) (fun x y H Q => ∃ i j, x = .str i ∧ y = .str j ∧ Q (.bl (decide (i.cps.toList < j.cps.toList))) H)) := op_lt.or op_lt_str
theorem od_lt : OpD X (orR (rI0 fun i j => .bl (decide (i < j))) (fun x y H Q => ∃ i j, x = .str i ∧ y = .str j ∧ Q (.bl (decide (i.cps.toList < j.cps.toList))) H)) dLt := by
  intro H M x y d e z Q al hx hy hg q
  unfold dLt at hg
  split at hg
  · cases hg
    exact .inl ⟨_, _, hx.int, hy.int, q _ _ (Same.refl _) (.bl _)⟩
  · cases hg
    exact .inr ⟨_, _, hx.str.1, hy.str.1, q _ _ (Same.refl _) (.bl _)⟩
  · cases hg
theorem od_le : OpD X (rI0 fun i j => .bl (decide (i ≤ j))) dLe := by
  intro H M x y d e z Q al hx hy hg q
  unfold dLe at hg
  split at hg
  · cases hg
    exact ⟨_, _, hx.int, hy.int, q _ _ (Same.refl _) (.bl _)⟩
  · cases hg
theorem od_gt : OpD X (rI0 fun i j => .bl (decide (j < i))) dGt := by
  intro H M x y d e z Q al hx hy hg q
  unfold dGt at hg
  split at hg
  · cases hg
    exact ⟨_, _, hx.int, hy.int, q _ _ (Same.refl _) (.bl _)⟩
  · cases hg
theorem od_ge : OpD X (rI0 fun i j => .bl (decide (j ≤ i))) dGe := by
  intro H M x y d e z Q al hx hy hg q
  unfold dGe at hg
  split at hg
  · cases hg
    exact ⟨_, _, hx.int, hy.int, q _ _ (Same.refl _) (.bl _)⟩
  · cases hg
theorem Rv.isN {K : Gs} {H : Hp} {M : Addr → Prop} {x : V} {d : D} (h : Rv K H M x d) : decide (x = .non) = isN d := by
  rcases h with h | ⟨k, a, rfl, m, w⟩
  · cases h <;> rfl
  · cases k <;> obtain ⟨vs, ds, rfl, _⟩ := w <;> rfl
theorem or_is : OpR X (compareOp .Is) (orR (fun x y H Q => y = .non ∧ Q (.bl (decide (x = .non))) H) rIsB) := op_isN.or op_isBl
theorem od_is : OpD X (orR (fun x y H Q => y = .non ∧ Q (.bl (decide (x = .non))) H) rIsB) dIs := by
  intro H M x y d e z Q al hx hy hg q
  unfold dIs at hg
  split at hg
  · cases hg
    exact .inl ⟨hy.non, q _ _ (Same.refl _) (by rw [hx.isN]; exact .bl _)⟩
  · cases hg
    exact .inr ⟨_, _, hx.bl, hy.bl, q _ _ (Same.refl _) (.bl _)⟩
  · cases hg
theorem or_isnot : OpR X (compareOp .IsNot) (orR (fun x y H Q => y = .non ∧ Q (.bl (!decide (x = .non))) H) rNotB) := op_notN.or op_notBl
theorem od_isnot : OpD X (orR (fun x y H Q => y = .non ∧ Q (.bl (!decide (x = .non))) H) rNotB) dIsNot := by
  intro H M x y d e z Q al hx hy hg q
  unfold dIsNot at hg
  split at hg
  · cases hg
    exact .inl ⟨hy.non, q _ _ (Same.refl _) (by rw [hx.isN]; exact .bl _)⟩
  · cases hg
    exact .inr ⟨_, _, hx.bl, hy.bl, q _ _ (Same.refl _) (.bl _)⟩
  · cases hg

/-! ### unary -/
def UnD (X : Cx) (r : V → Hp → VK → Prop) (g : D → Option D) : Prop :=
  ∀ (H : Hp) (M : Addr → Prop) (x : V) (d z : D) (Q : VK), (∀ a, M a → H a ≠ none) → Rv (gs X) H M x d → g d = some z → (∀ v H', Same H H' → Rp (gs X) H' M v z → Q v H') → r x H Q
def dUn (g : D → Option D) (fa : Env → Rs Arg) : Env → Rs D := fun ρ => (fa ρ).bind fun x ρ1 => opt ((x.get ρ1).bind g) ρ1
theorem de_un {C : Cs} {a : Expr} {fa : Env → Rs Arg} {pos : Pos} {op : UnaryOp} {r : V → Hp → VK → Prop} {g : D → Option D} (ho : UnR X (unaryOp op) r) (hg : UnD X r g) (ha : DV X C a fa) : DE X C (.UnaryOp op a pos) (dUn g fa) := by
  obtain ⟨tx, px, qx⟩ := ha.ex
  refine ⟨_, pe_un ho px, fun Y σ H M ρ Q hl s w => ?_⟩
  refine qx Y σ H M ρ _ hl s (Wi.seq w fun x ρ1 v H1 M1 s1 st1 r1 w1 => ?_)
  obtain ⟨z, ez, q⟩ := w1.optD s1
  obtain ⟨d, h1, h2⟩ := bind_some ez
  exact hg H1 M1 v d z Q s1.al (r1.rv s1 h1) h2 q
def dNeg : D → Option D
  | .int i => some (.int (-i))
  | _ => none
theorem ud_neg : UnD X (rU fun i => .int (-i)) dNeg := by
  intro H M x d z Q al hx hg q
  unfold dNeg at hg
  split at hg
  · cases hg
    exact ⟨_, hx.int, q _ _ (Same.refl _) (.int _)⟩
  · cases hg
end
end DL
end

section
set_option Elab.async false
set_option autoImplicit false
set_option linter.all false
set_option maxRecDepth 100000
set_option maxHeartbeats 1000000
/-! DL5: dicts by data. -/
namespace DL
open PySem PySem.Spec PyProof.Rows L2

def kfind (kvs : List (D × D)) (k : NestedKey) : Option D := (kvs.find? fun p => decide (keyOf p.1 = some k)).map (·.2)
def kput (kvs : List (D × D)) (kd : D) (k : NestedKey) (v : D) : List (D × D) := if (kfind kvs k).isSome = true then kvs.map (fun p => if keyOf p.1 = some k then (p.1, v) else p) else kvs ++ [(kd, v)]
/-- plain keys: ints, texts; tuples -/
def plainK : D → Bool
  | .int _ => true
  | .str _ => true
  | _ => false
def tupK : D → Bool
  | .tuple _ => true
  | _ => false
def nkK : Key → NestedKey
  | .inl i => .num i
  | .inr x => .text x
theorem keyOf_kD (k : Key) : keyOf (kD k) = some (nkK k) := by cases k <;> rfl
theorem nkK_inj {a b : Key} (h : nkK a = nkK b) : a = b := by
  cases a <;> cases b <;> simp_all [nkK]
theorem kfind_nil (k : NestedKey) : kfind [] k = none := rfl
theorem kfind_pos {p : D × D} {r : List (D × D)} {k : NestedKey} (e : keyOf p.1 = some k) : kfind (p :: r) k = some p.2 := by simp [kfind, List.find?_cons, e]
theorem kfind_neg {p : D × D} {r : List (D × D)} {k : NestedKey} (e : ¬ keyOf p.1 = some k) : kfind (p :: r) k = kfind r k := by simp [kfind, List.find?_cons, e]
/-- both nothing, or a value and its data -/
def RpO (K : Gs) (H : Hp) (M : Addr → Prop) : Option V → Option D → Prop
  | some v, some d => Rp K H M v d
  | none, none => True
  | _, _ => False
section
variable {K : Gs} {H : Hp} {M : Addr → Prop}
theorem RpK.find {kvs : List (Key × V)} {ds : List (D × D)} (r : RpK K H M kvs ds) (k : Key) : RpO K H M (valV kvs k) (kfind ds (nkK k)) := by
  induction kvs generalizing ds with
  | nil => cases r; exact trivial
  | cons p kvs ih =>
    cases r with
    | cons kz q t =>
      rename_i k' v d ds'
      by_cases e : k' = k
      · subst e
        rw [valV_pos rfl, kfind_pos (by rw [keyOf_kD])]
        exact q
      · rw [valV_neg e, kfind_neg (by rw [keyOf_kD]; intro z; exact e (nkK_inj (Option.some.inj z)))]
        exact ih t
theorem RpK.repl {kvs : List (Key × V)} {ds : List (D × D)} (r : RpK K H M kvs ds) (k : Key) {v : V} {d : D} (h : Rp K H M v d) :
    RpK K H M (kvs.map fun kv => if kv.1 = k then (kv.1, v) else kv) (ds.map fun p => if keyOf p.1 = some (nkK k) then (p.1, d) else p) := by
  induction kvs generalizing ds with
  | nil => cases r; exact .nil
  | cons p kvs ih =>
    cases r with
    | cons kz q t =>
      rename_i k' v' d' ds'
      rw [List.map_cons, List.map_cons]
      by_cases e : k' = k
      · subst e
        rw [if_pos rfl, if_pos (by rw [keyOf_kD])]
        exact .cons kz h (ih t)
      · rw [if_neg e, if_neg (by rw [keyOf_kD]; intro z; exact e (nkK_inj (Option.some.inj z)))]
        exact .cons kz q (ih t)
theorem RpK.append : ∀ {vs ws : List (Key × V)} {ds es : List (D × D)}, RpK K H M vs ds → RpK K H M ws es → RpK K H M (vs ++ ws) (ds ++ es)
  | _, _, _, _, .nil, s => s
  | _, _, _, _, .cons z q r, s => .cons z q (RpK.append r s)
theorem RpK.put {kvs : List (Key × V)} {ds : List (D × D)} (r : RpK K H M kvs ds) (k : Key) (kz : kOk k) {v : V} {d : D} (h : Rp K H M v d) : RpK K H M (putK kvs k v) (kput ds (kD k) (nkK k) d) := by
  unfold putK kput
  rw [valV_any]
  have f := r.find k
  cases e1 : valV kvs k with
  | none =>
    cases e2 : kfind ds (nkK k) with
    | none =>
      rw [if_neg (by simp), if_neg (by simp)]
      exact r.append (.cons kz h .nil)
    | some d' => rw [e1, e2] at f; exact f.elim
  | some v' =>
    cases e2 : kfind ds (nkK k) with
    | none => rw [e1, e2] at f; exact f.elim
    | some d' =>
      rw [if_pos (by simp), if_pos (by simp)]
      exact r.repl k h
/-! tuple keys -/
theorem RpN.find {xs : List (NestedKey × Addr × Value)} {ds : List (D × D)} (r : RpN K H M xs ds) (k : NestedKey) :
    (atKey xs k = none ∧ kfind ds k = none) ∨ ∃ p d v, atKey xs k = some p ∧ kfind ds k = some d ∧ RelV v p.2 ∧ Rp K H M v d := by
  induction xs generalizing ds with
  | nil => cases r; exact .inl ⟨rfl, rfl⟩
  | cons p xs ih =>
    cases r with
    | cons q1 q2 q3 q4 q5 t =>
      rename_i k' b u v kd d ds'
      by_cases e : k' = k
      · subst e
        refine .inr ⟨(b, u), d, v, ?_, kfind_pos q2, q4, q5⟩
        simp [atKey, List.find?_cons]
      · have e1 : atKey ((k', b, u) :: xs) k = atKey xs k := by simp [atKey, List.find?_cons, e]
        rw [e1, kfind_neg (by rw [q2]; intro z; exact e (Option.some.inj z))]
        exact ih t
theorem RpN.repl {xs : List (NestedKey × Addr × Value)} {ds : List (D × D)} (r : RpN K H M xs ds) (k : NestedKey) {v : V} {u : Value} {d : D} (rv : RelV v u) (h : Rp K H M v d) :
    RpN K H M (xs.map (putAt k u)) (ds.map fun p => if keyOf p.1 = some k then (p.1, d) else p) := by
  induction xs generalizing ds with
  | nil => cases r; exact .nil
  | cons p xs ih =>
    cases r with
    | cons q1 q2 q3 q4 q5 t =>
      rename_i k' b u' v' kd d' ds'
      rw [List.map_cons, List.map_cons]
      unfold putAt
      by_cases e : k' = k
      · subst e
        rw [if_pos rfl, if_pos q2]
        exact .cons q1 q2 q3 rv h (ih t)
      · rw [if_neg e, if_neg (by rw [q2]; intro z; exact e (Option.some.inj z))]
        exact .cons q1 q2 q3 q4 q5 (ih t)
theorem RpN.append : ∀ {vs ws : List (NestedKey × Addr × Value)} {ds es : List (D × D)}, RpN K H M vs ds → RpN K H M ws es → RpN K H M (vs ++ ws) (ds ++ es)
  | _, _, _, _, .nil, s => s
  | _, _, _, _, .cons q1 q2 q3 q4 q5 r, s => .cons q1 q2 q3 q4 q5 (RpN.append r s)
theorem RpN.put {xs : List (NestedKey × Addr × Value)} {ds : List (D × D)} (r : RpN K H M xs ds) {k : NestedKey} {b : Addr} {kd : D} (hk : Rp K H M (.ref b) kd) (ek : keyOf kd = some k) (h8 : k.depth ≤ 8) {v : V} {u : Value} {d : D} (rv : RelV v u) (h : Rp K H M v d) :
    RpN K H M (storedH xs k b u) (kput ds kd k d) := by
  unfold storedH kput
  rcases r.find k with ⟨e1, e2⟩ | ⟨p, d', v', e1, e2, _⟩
  · rw [e1, e2, if_neg (by simp), if_neg (by simp)]
    exact r.append (.cons hk ek h8 rv h .nil)
  · rw [e1, e2, if_pos (by simp), if_pos (by simp)]
    exact r.repl k rv h
end
section
variable {X : Cx} {pins : List (Addr × Obj)} {σ : L2.St} {H : Hp} {M : Addr → Prop} {s : Shared} {A : Around} {E : Value → Shared → Prop}
mutual
theorem key_is (I : Inv X pins σ H s) : ∀ (d : D) (v : V) (u : Value) (k : NestedKey), Rp (gs X) H M v d → RelV v u → keyOf d = some k → NestedIs s.heap k u
  | .none, _, _, _, h, r, e => by cases h; cases r; cases e; exact .none
  | .bool b, _, _, _, h, r, e => by cases h; cases r; cases e; exact .bool rfl
  | .int i, _, _, _, h, r, e => by cases h; obtain ⟨t, rfl⟩ := r; cases e; exact .int i t
  | .str x, _, _, _, h, r, e => by
    cases h with
    | str _ z => obtain ⟨t, rfl⟩ := r; cases e; exact .text x t
  | .list ds, _, _, _, h, r, e => by cases e
  | .dict ds, _, _, _, h, r, e => by cases e
  | .tuple ds, v, u, k, h, r, e => by
    have e' : (keysOf ds).map NestedKey.tup = some k := by simpa [keyOf] using e
    obtain ⟨ks, ek, rfl⟩ := Option.map_eq_some_iff.mp e'
    obtain ⟨a, xs, rfl, sq, _, ra⟩ := h.seqT
    cases r
    obtain ⟨its, rv, ⟨o, ho, hc, n, hd⟩, _⟩ := I.tuple sq
    exact .tup ho hc hd (by simpa using keys_are I ds xs its ks ra rv ek)
theorem keys_are (I : Inv X pins σ H s) : ∀ (ds : List D) (vs : List V) (us : List Value) (ks : List NestedKey), RpA (gs X) H M vs ds → Vals vs us → keysOf ds = some ks → NestedAll s.heap ks us
  | [], _, _, _, h, r, e => by cases h; cases r; cases e; exact .nil
  | d :: ds, _, _, _, h, r, e => by
    cases h with
    | cons q t =>
      cases r with
      | cons r1 r2 =>
        obtain ⟨k, e1, e2⟩ := bind_some (show (keyOf d).bind (fun k => (keysOf ds).map fun ks => k :: ks) = some _ from by simpa [keysOf] using e)
        obtain ⟨ks', e3, rfl⟩ := Option.map_eq_some_iff.mp e2
        exact .cons (key_is I d _ _ k q r1 e1) (keys_are I ds _ _ ks' t r2 e3)
end
theorem hn_ok {P : Program} {w : World} {H : Hp} {h : Heap} {a : Addr} {xs : List (NestedKey × Addr × Value)} (x : ObjOk P w H h a (HN P w a xs)) :
    ∃ o es ep, h.get? a = some o ∧ o.ExactDict ∧ o.data = .dict es ep ∧ es.toList = xs.map (entryOfKey (nestedKind P w)) ∧ (xs.map (·.1)).Nodup ∧ (a == sysModules) = false ∧ xs.length ≤ sizeLine := x.1
theorem dictN (I : Inv X pins σ H s) {a : Addr} {xs : List (NestedKey × Addr × Value)} {ds : List (D × D)} (h : Rd H a (HN X.prog X.w a xs)) (r : RpN (gs X) H M xs ds) :
    s.heap.DictOfH (nestedKind X.prog X.w) a xs ∧ (a == sysModules) = false ∧ xs.length ≤ sizeLine := by
  obtain ⟨o, es, ep, h1, h2, h3, h4, h5, h6, h7⟩ := hn_ok (h.ok I.hok)
  refine ⟨⟨o, es, ep, h1, h2, h3, h4, fun x hx => ?_, h5⟩, h6, h7⟩
  have all : ∀ {xs : List (NestedKey × Addr × Value)} {ds : List (D × D)}, RpN (gs X) H M xs ds → ∀ x ∈ xs, (nestedKind X.prog X.w).is s.heap x.1 x.2.1 := by
    intro xs
    induction xs with
    | nil => intro _ _ x hx; exact nomatch hx
    | cons p xs ih =>
      intro ds r x hx
      cases r with
      | cons q1 q2 q3 q4 q5 t =>
        rcases List.mem_cons.mp hx with e | hx
        · subst e
          exact ⟨key_is I _ _ _ _ q1 rfl q2, q3⟩
        · exact ih t x hx
  exact all r x hx
/-- nothing in it: it is a dict of any kind -/
theorem dk_nilN (I : Inv X pins σ H s) {a : Addr} (h : Rd H a (.dK [])) : s.heap.DictOfH (nestedKind X.prog X.w) a [] ∧ (a == sysModules) = false := by
  obtain ⟨z, hd, vs, rel, o, es, ep, h1, h2, h3, _, h4, _⟩ := dk_rd I.hok h
  cases rel
  have e : es.toList = [] := by
    generalize es.toList = l at h4
    cases h4
    rfl
  exact ⟨⟨o, es, ep, h1, h2, h3, by rw [e]; rfl, fun x hx => absurd hx (by simp), List.nodup_nil⟩, hd⟩
theorem dn_nilK (I : Inv X pins σ H s) {a : Addr} (h : Rd H a (HN X.prog X.w a [])) : s.heap.DictOf (mixKind X.prog X.w) a [] ∧ (a == sysModules) = false := by
  obtain ⟨o, es, ep, h1, h2, h3, h4, h5, h6, h7⟩ := hn_ok (h.ok I.hok)
  have e : es.toList = [] := h4
  refine ⟨⟨o, es, ep, h1, h2, h3, fun x hx => ?_, by rw [e]; exact .nil, List.nodup_nil⟩, h6⟩
  have : x ∈ es.toList := by simpa using hx
  rw [e] at this
  exact absurd this (by simp)
end

/-! ### what a dict holds, by data -/
def dGetI : D → D → Option D
  | .dict kvs, .int i => kfind kvs (.num i)
  | .dict kvs, .str x => kfind kvs (.text x)
  | .dict kvs, .tuple ds => (keyOf (.tuple ds)).bind fun k => if k.depth ≤ 8 then kfind kvs k else none
  | _, _ => none
/-- the answer where the key may not be there -/
def dLook : D → D → Option (Option D)
  | .dict kvs, .int i => if kvs.all (fun p => plainK p.1) = true then some (kfind kvs (.num i)) else none
  | .dict kvs, .str x => if kvs.all (fun p => plainK p.1) = true then some (kfind kvs (.text x)) else none
  | .dict kvs, .tuple ds => (keyOf (.tuple ds)).bind fun k => if k.depth ≤ 8 ∧ kvs.all (fun p => tupK p.1) = true then some (kfind kvs k) else none
  | _, _ => none
theorem tuple_key {ds : List D} {k : NestedKey} (h : keyOf (.tuple ds) = some k) : ∃ ks, k = .tup ks := by
  have e' : (keysOf ds).map NestedKey.tup = some k := by simpa [keyOf] using h
  obtain ⟨ks, _, rfl⟩ := Option.map_eq_some_iff.mp e'
  exact ⟨ks, rfl⟩
section
variable {K : Gs} {H : Hp} {M : Addr → Prop}
theorem RpN.tups : ∀ {xs : List (NestedKey × Addr × Value)} {ds : List (D × D)}, RpN K H M xs ds → ∀ p ∈ ds, tupK p.1 = true
  | _, _, .nil, p, hp => nomatch hp
  | _, _, .cons q1 q2 q3 q4 q5 r, p, hp => by
    rcases List.mem_cons.mp hp with e | hp
    · subst e
      cases q1 with
      | lst => cases q2
      | lstC => cases q2
      | tup => rfl
      | tupC => rfl
      | dK => cases q2
      | dN => cases q2
    · exact RpN.tups r p hp
theorem RpK.plains : ∀ {xs : List (Key × V)} {ds : List (D × D)}, RpK K H M xs ds → ∀ p ∈ ds, plainK p.1 = true
  | _, _, .nil, p, hp => nomatch hp
  | _, _, .cons (k := k) kz q1 r, p, hp => by
    rcases List.mem_cons.mp hp with e | hp
    · subst e
      cases k <;> rfl
    · exact RpK.plains r p hp
theorem kfind_mem {ds : List (D × D)} {k : NestedKey} {d : D} (h : kfind ds k = some d) : ∃ p ∈ ds, keyOf p.1 = some k ∧ p.2 = d := by
  unfold kfind at h
  obtain ⟨p, hp, e⟩ := Option.map_eq_some_iff.mp h
  exact ⟨p, List.mem_of_find?_eq_some hp, by simpa using List.find?_some hp, e⟩
theorem plain_not_tup {ds : List (D × D)} {ks : List NestedKey} {d : D} (h : kfind ds (.tup ks) = some d) (pl : ∀ p ∈ ds, plainK p.1 = true) : False := by
  obtain ⟨p, hp, e, _⟩ := kfind_mem h
  have := pl p hp
  cases e2 : p.1 <;> rw [e2] at this e <;> cases this <;> cases e
theorem tup_not_plain {ds : List (D × D)} {k : NestedKey} {d : D} (h : kfind ds k = some d) (nk : ∀ ks, k ≠ .tup ks) (pl : ∀ p ∈ ds, tupK p.1 = true) : False := by
  obtain ⟨p, hp, e, _⟩ := kfind_mem h
  have := pl p hp
  cases e2 : p.1 <;> rw [e2] at this e <;> try cases this
  obtain ⟨ks, e3⟩ := tuple_key e
  exact nk ks e3
end
/-- what stands at the key y of the dict at a: for the rules -/
inductive GetN (X : Cx) (H : Hp) (a : Addr) (y : V) (o : Option V) : Prop
  | k (g : DGet H a y o)
  | n {M : Addr → Prop} {xs : List (NestedKey × Addr × Value)} {ds : List (D × D)} {b : Addr} {kd : D} {k : NestedKey} (h : Rd H a (HN X.prog X.w a xs)) (r : RpN (gs X) H M xs ds) (ey : y = .ref b) (hk : Rp (gs X) H M (.ref b) kd) (ek : keyOf kd = some k) (h8 : k.depth ≤ 8)
      (ho : (atKey xs k = none ∧ o = none) ∨ ∃ p v, atKey xs k = some p ∧ RelV v p.2 ∧ o = some v)
  | nilN {M : Addr → Prop} {b : Addr} {kd : D} {k : NestedKey} (h : Rd H a (.dK [])) (ey : y = .ref b) (hk : Rp (gs X) H M (.ref b) kd) (ek : keyOf kd = some k) (h8 : k.depth ≤ 8) (ho : o = none)
  | nilK {k : Key} (h : Rd H a (HN X.prog X.w a [])) (ey : y = kV k) (ho : o = none)
section
variable {X : Cx} {pins : List (Addr × Obj)} {σ : L2.St} {H : Hp} {M : Addr → Prop} {s : Shared} {A : Around} {E : Value → Shared → Prop} {a : Addr} {y v : V} {u : Value} {o : Option V}
theorem room8 (hu : A.units + 64 < cLine) : (nestedKind X.prog X.w).room A.in1 := by
  show A.units + 1 + 8 < cLine
  omega
theorem getN_item {Q : Value → Shared → Prop} (hu : A.units + 64 < cLine) (I : Inv X pins σ H s) (g : GetN X H a y (some v)) (ry : RelV y u) (h : ∀ w' s', Inv X pins σ H s' → RelV v w' → Q w' s') :
    wpAny (model X.prog X.w) A (getItem (.ref a) u) Q E s := by
  cases g with
  | k g => exact d_getItem (by omega) I g ry h
  | n hx r ey hk ek h8 ho =>
    subst ey
    cases (show u = Value.ref _ from ry)
    rcases ho with ⟨_, e⟩ | ⟨p, v', ea, rv, e⟩
    · cases e
    · cases e
      obtain ⟨dd, hd, hz⟩ := dictN I hx r
      exact wpAny_getItem_heap (room8 hu) ⟨key_is I _ _ _ _ hk rfl ek, h8⟩ dd ea (h _ _ (I.tok _) rv)
  | nilN _ _ _ _ _ ho => cases ho
  | nilK _ _ ho => cases ho
theorem getN_in {Q : Value → Shared → Prop} (hu : A.units + 64 < cLine) (I : Inv X pins σ H s) (g : GetN X H a y o) (ry : RelV y u) (h : ∀ s', Inv X pins σ H s' → Q (.bool o.isSome) s') :
    wpAny (model X.prog X.w) A (compareOp .In u (.ref a)) Q E s := by
  cases g with
  | k g => exact d_in (by omega) I g ry h
  | n hx r ey hk ek h8 ho =>
    subst ey
    cases (show u = Value.ref _ from ry)
    obtain ⟨dd, hd, hz⟩ := dictN I hx r
    refine wpAny_in_heap (room8 hu) ⟨key_is I _ _ _ _ hk rfl ek, h8⟩ hd dd ?_
    rcases ho with ⟨ea, e⟩ | ⟨p, v', ea, rv, e⟩ <;> rw [ea] <;> subst e <;> exact h _ (I.tok _)
  | nilN hx ey hk ek h8 ho =>
    subst ey ho
    cases (show u = Value.ref _ from ry)
    obtain ⟨dd, hd⟩ := dk_nilN I hx
    exact wpAny_in_heap (room8 hu) ⟨key_is I _ _ _ _ hk rfl ek, h8⟩ hd dd (h _ (I.tok _))
  | nilK hx ey ho =>
    subst ey ho
    obtain ⟨dd, hd⟩ := dn_nilK I hx
    exact wpAny_in_of (kV_is ry) hd dd.mapOf (h _ (I.tok _))
theorem getN_notIn {Q : Value → Shared → Prop} (hu : A.units + 64 < cLine) (I : Inv X pins σ H s) (g : GetN X H a y o) (ry : RelV y u) (h : ∀ s', Inv X pins σ H s' → Q (.bool (!o.isSome)) s') :
    wpAny (model X.prog X.w) A (compareOp .NotIn u (.ref a)) Q E s := by
  cases g with
  | k g => exact d_notIn (by omega) I g ry h
  | n hx r ey hk ek h8 ho =>
    subst ey
    cases (show u = Value.ref _ from ry)
    obtain ⟨dd, hd, hz⟩ := dictN I hx r
    refine wpAny_notIn_heap (room8 hu) ⟨key_is I _ _ _ _ hk rfl ek, h8⟩ hd dd ?_
    rcases ho with ⟨ea, e⟩ | ⟨p, v', ea, rv, e⟩ <;> rw [ea] <;> subst e <;> exact h _ (I.tok _)
  | nilN hx ey hk ek h8 ho =>
    subst ey ho
    cases (show u = Value.ref _ from ry)
    obtain ⟨dd, hd⟩ := dk_nilN I hx
    exact wpAny_notIn_heap (room8 hu) ⟨key_is I _ _ _ _ hk rfl ek, h8⟩ hd dd (h _ (I.tok _))
  | nilK hx ey ho =>
    subst ey ho
    obtain ⟨dd, hd⟩ := dn_nilK I hx
    exact wpAny_notIn_of (kV_is ry) hd dd.mapOf (h _ (I.tok _))
end
/-- from the data -/
theorem getN_of {X : Cx} {H : Hp} {M : Addr → Prop} {x y : V} {ds : List (D × D)} {kd : D} {o : Option D} (hx : Rv (gs X) H M x (.dict ds)) (hy : Rv (gs X) H M y kd) (h : dLook (.dict ds) kd = some o) :
    ∃ a o', x = .ref a ∧ GetN X H a y o' ∧ RpO (gs X) H M o' o := by
  obtain ⟨a, ea, hx2⟩ := hx.dct
  subst ea
  have plain : ∀ (k : Key), kd = kD k → y = kV k → ds.all (fun p => plainK p.1) = true → o = kfind ds (nkK k) → ∃ a' o', V.ref a = .ref a' ∧ GetN X H a' y o' ∧ RpO (gs X) H M o' o := by
    intro k ek ey hp ho
    subst ho
    rcases hx2 with ⟨kvs, r, z, rk⟩ | ⟨xs, r, rn⟩
    · exact ⟨a, _, rfl, .k (.inl ⟨kvs, k, r, ey, rfl⟩), rk.find k⟩
    · cases rn with
      | nil => exact ⟨a, none, rfl, .nilK r ey rfl, trivial⟩
      | cons q1 q2 q3 q4 q5 t =>
        have h1 := RpN.tups (.cons q1 q2 q3 q4 q5 t) _ List.mem_cons_self
        have h2 := List.all_eq_true.mp hp _ List.mem_cons_self
        rename_i kd' _ _ _
        cases kd' <;> first | (simp [tupK] at h1; done) | (simp [plainK] at h2; done)
  cases kd with
  | int i =>
    have h' : (if ds.all (fun p => plainK p.1) = true then some (kfind ds (.num i)) else none) = some o := h
    split at h'
    · rename_i hp
      exact plain (.inl i) rfl hy.int hp (Option.some.inj h').symm
    · cases h'
  | str i =>
    have h' : (if ds.all (fun p => plainK p.1) = true then some (kfind ds (.text i)) else none) = some o := h
    split at h'
    · rename_i hp
      exact plain (.inr i) rfl hy.str.1 hp (Option.some.inj h').symm
    · cases h'
  | tuple ks =>
    have h' : (keyOf (.tuple ks)).bind (fun k => if k.depth ≤ 8 ∧ ds.all (fun p => tupK p.1) = true then some (kfind ds k) else none) = some o := h
    obtain ⟨k, ek, h2⟩ := bind_some h'
    split at h2
    · rename_i hc
      cases h2
      obtain ⟨b, ws, rfl, sb, _, rb⟩ := hy.seqT
      have hk : Rp (gs X) H M (.ref b) (.tuple ks) := by
        rcases hy with h | ⟨k, c, e1, m, w⟩
        · exact h
        · cases k <;> obtain ⟨vs, ds', e, _⟩ := w <;> cases e
      rcases hx2 with ⟨kvs, r, z, rk⟩ | ⟨xs, r, rn⟩
      · cases rk with
        | nil => exact ⟨a, none, rfl, .nilN r rfl hk ek hc.1 rfl, trivial⟩
        | cons kz q t =>
          have h1 := List.all_eq_true.mp hc.2 _ List.mem_cons_self
          rename_i k' _ _ _ _
          cases k' <;> (simp [tupK, kD] at h1; done)
      · rcases rn.find k with ⟨e1, e2⟩ | ⟨p, d, v, e1, e2, e3, e4⟩
        · exact ⟨a, none, rfl, .n r rn rfl hk ek hc.1 (.inl ⟨e1, rfl⟩), by rw [e2]; exact trivial⟩
        · exact ⟨a, some v, rfl, .n r rn rfl hk ek hc.1 (.inr ⟨p, v, e1, e3, rfl⟩), by rw [e2]; exact e4⟩
    · cases h2
  | _ => cases h
theorem getN_of2 {X : Cx} {H : Hp} {M : Addr → Prop} {x y : V} {ds : List (D × D)} {kd : D} {d : D} (hx : Rv (gs X) H M x (.dict ds)) (hy : Rv (gs X) H M y kd) (h : dGetI (.dict ds) kd = some d) :
    ∃ a v, x = .ref a ∧ GetN X H a y (some v) ∧ Rp (gs X) H M v d := by
  have key : dLook (.dict ds) kd = some (some d) := by
    have pl : (∀ p ∈ ds, plainK p.1 = true) ∨ (∀ p ∈ ds, tupK p.1 = true) := by
      obtain ⟨a, ea, hx2⟩ := hx.dct
      rcases hx2 with ⟨kvs, r, z, rk⟩ | ⟨xs, r, rn⟩
      · exact .inl rk.plains
      · exact .inr rn.tups
    cases kd with
    | int i =>
      have h' : kfind ds (.num i) = some d := h
      rcases pl with pl | pl
      · show (if _ then _ else _) = _
        rw [if_pos (List.all_eq_true.mpr pl), h']
      · exact (tup_not_plain h' (fun ks z => by cases z) pl).elim
    | str i =>
      have h' : kfind ds (.text i) = some d := h
      rcases pl with pl | pl
      · show (if _ then _ else _) = _
        rw [if_pos (List.all_eq_true.mpr pl), h']
      · exact (tup_not_plain h' (fun ks z => by cases z) pl).elim
    | tuple ks =>
      have h' : (keyOf (.tuple ks)).bind (fun k => if k.depth ≤ 8 then kfind ds k else none) = some d := h
      obtain ⟨k, ek, h2⟩ := bind_some h'
      split at h2
      · rename_i h8
        obtain ⟨ks', e⟩ := tuple_key ek
        rcases pl with pl | pl
        · subst e
          exact (plain_not_tup h2 pl).elim
        · show (keyOf (.tuple ks)).bind _ = _
          rw [ek]
          show (if _ then _ else _) = _
          rw [if_pos ⟨h8, List.all_eq_true.mpr pl⟩, h2]
      · cases h2
    | _ => cases h
  obtain ⟨a, o', e1, g, r⟩ := getN_of hx hy key
  cases o' with
  | none => exact r.elim
  | some v => exact ⟨a, v, e1, g, r⟩
end DL
end

section
set_option Elab.async false
set_option autoImplicit false
set_option linter.all false
set_option maxRecDepth 100000
set_option maxHeartbeats 1000000
/-! DL6: in, subscripts, slices, calls of built-ins, by data. -/
namespace DL
open PySem PySem.Spec PyProof.Rows L2

theorem hu65 {k : Nat} {A : Around} (r : Room k A) : A.units + 65 < cLine := by have := r.un; omega
theorem hu64 {k : Nat} {A : Around} (r : Room k A) : A.units + 64 < cLine := by have := r.un; omega
section
variable {X : Cx}
/-! ### in -/
theorem tuple_in_reads {s : Shared} {A : Around} {E : Value → Shared → Prop} {Q : Value → Shared → Prop} {u v : Value} {ds : List PyData} {d : PyData} : True := trivial
def rInDct (X : Cx) (neg : Bool) : R2 := fun x y H Q => ∃ a o, y = .ref a ∧ GetN X H a x o ∧ Q (.bl (if neg = true then !o.isSome else o.isSome)) H
theorem op_inDct (hu : X.A.units + 65 < cLine) : OpR X (compareOp .In) (rInDct X false) := by
  intro pins s σ H x y v u Q I rx ry h
  obtain ⟨a, o, rfl, g, q⟩ := h
  obtain rfl : u = Value.ref a := ry
  exact getN_in (by omega) I g rx fun s' I' => ⟨.bl _, H, I', rfl, q⟩
theorem op_notInDct (hu : X.A.units + 65 < cLine) : OpR X (compareOp .NotIn) (rInDct X true) := by
  intro pins s σ H x y v u Q I rx ry h
  obtain ⟨a, o, rfl, g, q⟩ := h
  obtain rfl : u = Value.ref a := ry
  exact getN_notIn (by omega) I g rx fun s' I' => ⟨.bl _, H, I', rfl, q⟩
/-- flat things -/
def flatD : D → Bool
  | .none => true
  | .bool _ => true
  | .int _ => true
  | .str _ => true
  | _ => false
theorem flat_v {K : Gs} {H : Hp} {M : Addr → Prop} {v : V} {d : D} (h : Rp K H M v d) (f : flatD d = true) : flatV v = true := by
  cases h <;> first | rfl | cases f
theorem flats_v {K : Gs} {H : Hp} {M : Addr → Prop} : ∀ {vs : List V} {ds : List D}, RpA K H M vs ds → ds.all flatD = true → vs.all flatV = true
  | _, _, .nil, _ => rfl
  | _, _, .cons q r, f => by
    rw [List.all_cons, Bool.and_eq_true] at f ⊢
    exact ⟨flat_v q f.1, flats_v r f.2⟩
theorem eqV_D {K : Gs} {H : Hp} {M : Addr → Prop} {v w : V} {d e : D} (h : Rp K H M v d) (h2 : Rp K H M w e) (f : flatD d = true) (f2 : flatD e = true) : eqV v w = PyData.eqv d e := by
  cases h <;> first | (cases f; done) | (cases h2 <;> first | (cases f2; done) | rfl | simp [eqV, PyData.eqv])
theorem inV_D {K : Gs} {H : Hp} {M : Addr → Prop} {v : V} {d : D} (h : Rp K H M v d) (f : flatD d = true) : ∀ {vs : List V} {ds : List D}, RpA K H M vs ds → ds.all flatD = true → inV v vs = ds.any fun z => PyData.eqv z d
  | _, _, .nil, _ => rfl
  | _, _, .cons q r, g => by
    rw [List.all_cons, Bool.and_eq_true] at g
    unfold inV
    rw [List.any_cons, List.any_cons, eqV_D q h g.1 f]
    have := inV_D h f r g.2
    unfold inV at this
    rw [this]
/-- x in y -/
def inD : D → D → Option Bool
  | d, .dict kvs => (dLook (.dict kvs) d).map (·.isSome)
  | d, .list ds => if flatD d = true ∧ ds.all flatD = true then some (ds.any fun z => PyData.eqv z d) else if SeqAt.shaped d = true ∧ SeqAt.shaped (.list ds) = true then some (ds.any fun z => PyData.eqv z d) else none
  | d, .tuple ds => if flatD d = true ∧ ds.all flatD = true then some (ds.any fun z => PyData.eqv z d) else none
  | .str x, .str z => match x.cps.toList with
    | [c] => some (decide (c ∈ z.cps.toList))
    | _ => none
  | _, _ => none
def dIn (d e : D) : Option D := (inD d e).map .bool
def dNotIn (d e : D) : Option D := (inD d e).map fun b => .bool (!b)
def rInAll (X : Cx) : R2 := orR (rInDct X false) (orR (rIn X.K false) (orR (rInD X.K) (fun x y H Q => ∃ (c : Nat) (z : Str), x = .str ⟨#[c]⟩ ∧ y = .str z ∧ Q (.bl (decide (c ∈ z.cps.toList))) H)))
def rNotInAll (X : Cx) : R2 := orR (rInDct X true) (orR (rIn X.K true) (orR (rNotInD X.K) (fun x y H Q => ∃ (c : Nat) (z : Str), x = .str ⟨#[c]⟩ ∧ y = .str z ∧ Q (.bl (!decide (c ∈ z.cps.toList))) H)))
theorem or_in (hu : X.A.units + 65 < cLine) : OpR X (compareOp .In) (rInAll X) := (op_inDct hu).or (op_in_seq.or ((op_inD hu).or op_in_sign))
theorem or_notIn (hu : X.A.units + 65 < cLine) : OpR X (compareOp .NotIn) (rNotInAll X) := (op_notInDct hu).or (op_notIn_seq.or ((op_notInD hu).or op_notIn_sign))
theorem Rv.flat {K : Gs} {H : Hp} {M : Addr → Prop} {v : V} {d : D} (h : Rv K H M v d) (f : flatD d = true) : Rp K H M v d := by
  rcases h with h | ⟨k, a, rfl, m, w⟩
  · exact h
  · cases k <;> obtain ⟨vs, ds, rfl, _⟩ := w <;> cases f
theorem sign_of {x : Str} {c : Nat} (h : x.cps.toList = [c]) : x = ⟨#[c]⟩ := by
  cases x with
  | mk a => cases a with
    | mk l => cases h; rfl
/-- both, by whether it is asked the other way -/
theorem in_core {neg : Bool} {H : Hp} {M : Addr → Prop} {x y : V} {d e : D} {b : Bool} {Q : VK} (hx : Rv (gs X) H M x d) (hy : Rv (gs X) H M y e) (h : inD d e = some b) (q : Q (.bl (if neg = true then !b else b)) H) :
    rInDct X neg x y H Q ∨ rIn X.K neg x y H Q ∨ (∃ d ds, Dp X.K H x d ∧ Dp X.K H y (.list ds) ∧ SeqAt.shaped d = true ∧ SeqAt.shaped (.list ds) = true ∧ Q (.bl (if neg = true then !(ds.any fun z => PyData.eqv z d) else ds.any fun z => PyData.eqv z d)) H) ∨
      ∃ (c : Nat) (z : Str), x = .str ⟨#[c]⟩ ∧ y = .str z ∧ Q (.bl (if neg = true then !decide (c ∈ z.cps.toList) else decide (c ∈ z.cps.toList))) H := by
  unfold inD at h
  split at h
  · obtain ⟨o, e1, rfl⟩ := Option.map_eq_some_iff.mp h
    obtain ⟨a, o', rfl, g, r⟩ := getN_of hy hx e1
    have es : o'.isSome = o.isSome := by
      cases o' <;> cases o <;> first | rfl | exact r.elim
    exact .inl ⟨a, o', rfl, g, by rw [es]; exact q⟩
  · rename_i ds
    split at h
    · rename_i hc
      have hb : (ds.any fun z => PyData.eqv z d) = b := Option.some.inj h
      obtain ⟨a, vs, rfl, ea, _, ra⟩ := hy.seqL
      have hx' := hx.flat hc.1
      refine .inr (.inl ⟨a, vs, rfl, .inl (ea), flat_v hx' hc.1, flats_v ra hc.2, ?_⟩)
      rw [inV_D hx' hc.1 ra hc.2, hb]
      exact q
    · split at h
      · rename_i hc
        have hb : (ds.any fun z => PyData.eqv z d) = b := Option.some.inj h
        refine .inr (.inr (.inl ⟨d, ds, hx.dp (SeqAt.canLay_of_shaped hc.1), hy.dp (SeqAt.canLay_of_shaped hc.2), hc.1, hc.2, ?_⟩))
        rw [hb]
        exact q
      · cases h
  · rename_i ds
    split at h
    · rename_i hc
      have hb : (ds.any fun z => PyData.eqv z d) = b := Option.some.inj h
      obtain ⟨a, vs, rfl, ea, _, ra⟩ := hy.seqT
      have hx' := hx.flat hc.1
      refine .inr (.inl ⟨a, vs, rfl, .inr ea, flat_v hx' hc.1, flats_v ra hc.2, ?_⟩)
      rw [inV_D hx' hc.1 ra hc.2, hb]
      exact q
    · cases h
  · split at h
    · rename_i c e1
      have hb := Option.some.inj h
      refine .inr (.inr (.inr ⟨c, _, by rw [hx.str.1, sign_of e1], hy.str.1, ?_⟩))
      rw [hb]
      exact q
    · cases h
  · cases h
theorem od_in : OpD X (rInAll X) dIn := by
  intro H M x y d e z Q al hx hy hg q
  obtain ⟨b, eb, rfl⟩ := Option.map_eq_some_iff.mp hg
  exact in_core (neg := false) hx hy eb (q _ _ (Same.refl _) (.bl _))
theorem od_notIn : OpD X (rNotInAll X) dNotIn := by
  intro H M x y d e z Q al hx hy hg q
  obtain ⟨b, eb, rfl⟩ := Option.map_eq_some_iff.mp hg
  exact in_core (neg := true) hx hy eb (q _ _ (Same.refl _) (.bl _))

/-! ### subscripts -/
def dIx : D → D → Option D
  | .list ds, .int i => atI ds i
  | .tuple ds, .int i => atI ds i
  | .str z, .int i => (atI z.cps.toList i).map fun c => .str ⟨#[c]⟩
  | .dict kvs, k => dGetI (.dict kvs) k
  | _, _ => none
def rIxD (X : Cx) : R2 := fun x y H Q => ∃ a v, x = .ref a ∧ GetN X H a y (some v) ∧ Q v H
theorem ix_dict (hu : X.A.units + 65 < cLine) : IxR X (rIxD X) := by
  intro value slice pins s σ H x y v u Q I rx ry h hs
  obtain ⟨a, w, rfl, g, q⟩ := h
  obtain rfl : v = Value.ref a := rx
  have hT : s.TypeIs (.ref a) "dict" := by
    cases g with
    | k g => exact dict_typeIs I g
    | n hx r _ _ _ _ _ => exact (dictN I hx r).1.typeIs
    | nilN hx _ _ _ _ _ => exact (dk_nilN I hx).1.typeIs
    | nilK hx _ _ => exact (dn_nilK I hx).1.typeIs
  exact tail_any hT PySem.F.slot_dict_getitem.lookup (getN_item (by omega) I g ry fun w' s' I' r' => ⟨w, H, I', r', q⟩) hs
theorem atI_RpA {K : Gs} {H : Hp} {M : Addr → Prop} {vs : List V} {ds : List D} {i : Int} {d : D} (r : RpA K H M vs ds) (h : atI ds i = some d) : ∃ v, atI vs i = some v ∧ Rp K H M v d := by
  unfold atI at h ⊢
  rw [r.length]
  obtain ⟨j, e1, e2⟩ := bind_some h
  obtain ⟨v, e3, q⟩ := r.get e2
  exact ⟨v, by rw [e1]; exact e3, q⟩
theorem od_ix : OpD X (orR (rIx X.K) (rIxD X)) dIx := by
  intro H M x y d e z Q al hx hy hg q
  unfold dIx at hg
  split at hg
  · obtain ⟨a, vs, rfl, ea, _, ra⟩ := hx.seqL
    obtain ⟨v, e1, r⟩ := atI_RpA ra hg
    exact .inl (.inl ⟨a, vs, _, v, rfl, hy.int, ea, e1, q _ _ (Same.refl _) r⟩)
  · obtain ⟨a, vs, rfl, ea, _, ra⟩ := hx.seqT
    obtain ⟨v, e1, r⟩ := atI_RpA ra hg
    exact .inl (.inr (.inl ⟨a, vs, _, v, rfl, hy.int, ea, e1, q _ _ (Same.refl _) r⟩))
  · obtain ⟨c, e1, rfl⟩ := Option.map_eq_some_iff.mp hg
    exact .inl (.inr (.inr ⟨_, _, c, hx.str.1, hy.int, hx.str.2, e1, q _ _ (Same.refl _) (.str _ (by show 1 ≤ sizeLine; decide))⟩))
  · obtain ⟨a, v, rfl, g, r⟩ := getN_of2 hx hy hg
    exact .inr ⟨a, v, rfl, g, q _ _ (Same.refl _) r⟩
  · cases hg
theorem or_ix (hu : X.A.units + 65 < cLine) : IxR X (orR (rIx X.K) (rIxD X)) := ix_seq.or (ix_dict hu)
variable {C : Cs} {e a b c : Expr} {es : List Expr} {fa fb : Env → Rs Arg} {f f' : Env → Rs D} {fr : Env → Rs (List Arg)} {pos : Pos}
theorem de_ix {r : R2} {g : D → D → Option D} (hr : IxR X r) (hg : OpD X r g) (ha : DV X C a fa) (hb : DV X C b fb) (hs : PlainIx b) : DE X C (.Subscript a b pos) (dBin g fa fb) := by
  obtain ⟨tx, px, qx⟩ := ha.ex
  obtain ⟨ty, py, qy⟩ := hb.ex
  refine ⟨_, pe_ix hr px py hs, fun Y σ H M ρ Q hl s w => ?_⟩
  refine bin_core qx qy hl s w fun x y ρ2 v u H2 M2 s2 st r1 r2 w2 => ?_
  obtain ⟨z, ez, q⟩ := w2.optD s2
  obtain ⟨d, e, h1, h2, h3⟩ := get2_some ez
  exact hg H2 M2 v u d e z Q s2.al (r1.rv s2 h1) (r2.rv s2 h2) h3 q

/-! ### calls of built-ins -/
def CallD (X : Cx) (r : List V → Hp → VK → Prop) (g : List D → Option D) : Prop :=
  ∀ (H : Hp) (M : Addr → Prop) (vs : List V) (ds : List D) (z : D) (Q : VK), (∀ a, M a → H a ≠ none) → RvA (gs X) H M vs ds → g ds = some z → (∀ v H', Same H H' → Rp (gs X) H' M v z → Q v H') → r vs H Q
/-- one that makes a new object -/
def CallF (X : Cx) (k : Kd) (r : List V → Hp → VK → Prop) (g : List D → Option D) : Prop :=
  ∀ (H : Hp) (M : Addr → Prop) (vs : List V) (ds : List D) (z : D) (Q : VK), (∀ a, M a → H a ≠ none) → RvA (gs X) H M vs ds → g ds = some z → (∀ p o, H p = none → OwnAt (gs X) (upd H p o) (Mp M p) k p z → Q (.ref p) (upd H p o)) → r vs H Q
def dCallB (g : List D → Option D) (fr : Env → Rs (List Arg)) : Env → Rs D := fun ρ => (fr ρ).bind fun xs ρ1 => opt ((getAll ρ1 xs).bind g) ρ1
theorem call_core {t : TA} {r : List V → Hp → VK → Prop} {g : List D → Option D} (qx : ∀ (Y : Dy) (σ : L2.St) (H : Hp) (M : Addr → Prop) (ρ : Env) (Q : List V → Hp → Prop), LsOk C Y → SR (gs X) Y σ H M ρ → Wi (gs X) C Y σ H M (RAs (gs X) σ) (fr ρ) Q → t σ H Q)
    (hd : CallD X r g) {Y : Dy} {σ : L2.St} {H : Hp} {M : Addr → Prop} {ρ : Env} {Q : VK} (hl : LsOk C Y) (s : SR (gs X) Y σ H M ρ) (w : Wi (gs X) C Y σ H M (RD (gs X)) (dCallB g fr ρ) Q) : t σ H fun vs H1 => r vs H1 Q := by
  refine qx Y σ H M ρ _ hl s (Wi.seq w fun xs ρ1 vs H1 M1 s1 st1 r1 w1 => ?_)
  obtain ⟨z, ez, q⟩ := w1.optD s1
  obtain ⟨ds, h1, h2⟩ := bind_some ez
  exact hd H1 M1 vs ds z Q s1.al (r1.rv s1 h1) h2 q
theorem callF_core {k : Kd} {t : TA} {r : List V → Hp → VK → Prop} {g : List D → Option D} (qx : ∀ (Y : Dy) (σ : L2.St) (H : Hp) (M : Addr → Prop) (ρ : Env) (Q : List V → Hp → Prop), LsOk C Y → SR (gs X) Y σ H M ρ → Wi (gs X) C Y σ H M (RAs (gs X) σ) (fr ρ) Q → t σ H Q)
    (hd : CallF X k r g) {Y : Dy} {σ : L2.St} {H : Hp} {M : Addr → Prop} {ρ : Env} {Q : VK} (hl : LsOk C Y) (s : SR (gs X) Y σ H M ρ) (w : Wi (gs X) C Y σ H M (RF (gs X) Y σ k) (dCallB g fr ρ) Q) : t σ H fun vs H1 => r vs H1 Q := by
  refine qx Y σ H M ρ _ hl s (Wi.seq w fun xs ρ1 vs H1 M1 s1 st1 r1 w1 => ?_)
  cases ez : (getAll ρ1 xs).bind g with
  | none => rw [ez] at w1; exact w1.elim
  | some z =>
    rw [ez] at w1
    obtain ⟨ds, h1, h2⟩ := bind_some ez
    exact hd H1 M1 vs ds z Q s1.al (r1.rv s1 h1) h2 fun p o hp ow => w1 _ _ (Mp M1 p) (s1.more hp) (.more hp) ⟨p, rfl, .inr rfl, s1.h0none hp, fun i q => (s1.ownM q).2 hp, ow⟩
variable {x : Str} {p : Pos} {id T : String} {r : List V → Hp → VK → Prop} {g : List D → Option D}
theorem de_callB (hc : CallR X (.builtin id) r) (hd : CallD X r g) (hg : Gl X x) (hm : X.mg x = none) (hv : bootBuiltins x = some (.builtin id)) (ha : DA X C (e :: es) fr) (hn : x ≠ "__name__" := by decide) (hdb : (x == ("__debug__" : Str)) = false := by decide)
    (he : starEach (e :: es) X.env = (false, eval e X.env) :: starEach es X.env := by rfl) (hpl : (backTo pos (starEach es X.env)).any (·.1) = false := by rfl) : DE X C (.Call (.Name x p) (e :: es) [] pos) (dCallB g fr) := by
  obtain ⟨tx, px, qx⟩ := ha.ex
  exact ⟨_, pe_callB hc hg hm hv px hn hdb he hpl, fun Y σ H M ρ Q hl s w => call_core qx hd hl s w⟩
theorem de_callTy (hc : CallR X (.type T) r) (hd : CallD X r g) (hg : Gl X x) (hm : X.mg x = none) (hv : bootBuiltins x = some (.type T)) (ha : DA X C (e :: es) fr) (hn : x ≠ "__name__" := by decide) (hdb : (x == ("__debug__" : Str)) = false := by decide)
    (he : starEach (e :: es) X.env = (false, eval e X.env) :: starEach es X.env := by rfl) (hpl : (backTo pos (starEach es X.env)).any (·.1) = false := by rfl) : DE X C (.Call (.Name x p) (e :: es) [] pos) (dCallB g fr) := by
  obtain ⟨tx, px, qx⟩ := ha.ex
  exact ⟨_, pe_callTy hc hg hm hv px hn hdb he hpl, fun Y σ H M ρ Q hl s w => call_core qx hd hl s w⟩
theorem df_callB {k : Kd} (hc : CallR X (.builtin id) r) (hd : CallF X k r g) (hg : Gl X x) (hm : X.mg x = none) (hv : bootBuiltins x = some (.builtin id)) (ha : DA X C (e :: es) fr) (hn : x ≠ "__name__" := by decide) (hdb : (x == ("__debug__" : Str)) = false := by decide)
    (he : starEach (e :: es) X.env = (false, eval e X.env) :: starEach es X.env := by rfl) (hpl : (backTo pos (starEach es X.env)).any (·.1) = false := by rfl) : DF X C k (.Call (.Name x p) (e :: es) [] pos) (dCallB g fr) := by
  obtain ⟨tx, px, qx⟩ := ha.ex
  exact ⟨_, pe_callB hc hg hm hv px hn hdb he hpl, fun Y σ H M ρ Q hl s w => callF_core qx hd hl s w⟩
theorem df_callTy {k : Kd} (hc : CallR X (.type T) r) (hd : CallF X k r g) (hg : Gl X x) (hm : X.mg x = none) (hv : bootBuiltins x = some (.type T)) (ha : DA X C (e :: es) fr) (hn : x ≠ "__name__" := by decide) (hdb : (x == ("__debug__" : Str)) = false := by decide)
    (he : starEach (e :: es) X.env = (false, eval e X.env) :: starEach es X.env := by rfl) (hpl : (backTo pos (starEach es X.env)).any (·.1) = false := by rfl) : DF X C k (.Call (.Name x p) (e :: es) [] pos) (dCallB g fr) := by
  obtain ⟨tx, px, qx⟩ := ha.ex
  exact ⟨_, pe_callTy hc hg hm hv px hn hdb he hpl, fun Y σ H M ρ Q hl s w => callF_core qx hd hl s w⟩
/-- a module's name for a built-in function (gcd) -/
theorem de_callFun (hc : CallR X (.builtin id) r) (hd : CallD X r g) (hg : Gl X x) (hm : X.mg x = some (.builtin id)) (ha : DA X C (e :: es) fr) (hdb : (x == ("__debug__" : Str)) = false := by decide)
    (he : starEach (e :: es) X.env = (false, eval e X.env) :: starEach es X.env := by rfl) (hpl : (backTo pos (starEach es X.env)).any (·.1) = false := by rfl) : DE X C (.Call (.Name x p) (e :: es) [] pos) (dCallB g fr) := by
  obtain ⟨tx, px, qx⟩ := ha.ex
  exact ⟨_, pe_callBfun hc hg hm px hdb he hpl, fun Y σ H M ρ Q hl s w => call_core qx hd hl s w⟩

/-! ### what they give -/
theorem RvA.one {K : Gs} {H : Hp} {M : Addr → Prop} {vs : List V} {d : D} (h : RvA K H M vs [d]) : ∃ v, vs = [v] ∧ Rv K H M v d := by
  cases h with
  | cons q r => cases r; exact ⟨_, rfl, q⟩
theorem RvA.two {K : Gs} {H : Hp} {M : Addr → Prop} {vs : List V} {d e : D} (h : RvA K H M vs [d, e]) : ∃ v w, vs = [v, w] ∧ Rv K H M v d ∧ Rv K H M w e := by
  cases h with
  | cons q r => cases r with
    | cons q2 r2 => cases r2; exact ⟨_, _, rfl, q, q2⟩
def gAbs : List D → Option D
  | [.int i] => some (.int (if i < 0 then -i else i))
  | _ => none
theorem cd_abs : CallD X (fun xs H Q => ∃ i, xs = [.int i] ∧ Q (.int (if i < 0 then -i else i)) H) gAbs := by
  intro H M vs ds z Q al h hg q
  unfold gAbs at hg
  split at hg
  · cases hg
    obtain ⟨v, rfl, r⟩ := h.one
    exact ⟨_, by rw [r.int], q _ _ (Same.refl _) (.int _)⟩
  · cases hg
def gInt : List D → Option D
  | [.int i] => some (.int i)
  | [.bool b] => some (.int (if b then 1 else 0))
  | _ => none
theorem cd_int : CallD X (fun xs H Q => (∃ i, xs = [.int i] ∧ Q (.int i) H) ∨ ∃ k, xs = [.bl k] ∧ Q (.int (if k then 1 else 0)) H) gInt := by
  intro H M vs ds z Q al h hg q
  unfold gInt at hg
  split at hg
  · cases hg
    obtain ⟨v, rfl, r⟩ := h.one
    exact .inl ⟨_, by rw [r.int], q _ _ (Same.refl _) (.int _)⟩
  · cases hg
    obtain ⟨v, rfl, r⟩ := h.one
    exact .inr ⟨_, by rw [r.bl], q _ _ (Same.refl _) (.int _)⟩
  · cases hg
def gMax2 : List D → Option D
  | [.int i, .int j] => some (.int (if j > i then j else i))
  | _ => none
theorem cd_max2 : CallD X (fun xs H Q => ∃ i j, xs = [.int i, .int j] ∧ Q (.int (if j > i then j else i)) H) gMax2 := by
  intro H M vs ds z Q al h hg q
  unfold gMax2 at hg
  split at hg
  · cases hg
    obtain ⟨v, w, rfl, r, r2⟩ := h.two
    exact ⟨_, _, by rw [r.int, r2.int], q _ _ (Same.refl _) (.int _)⟩
  · cases hg
def gMin2 : List D → Option D
  | [.int i, .int j] => some (.int (if j < i then j else i))
  | _ => none
theorem cd_min2 : CallD X (fun xs H Q => ∃ i j, xs = [.int i, .int j] ∧ Q (.int (if j < i then j else i)) H) gMin2 := by
  intro H M vs ds z Q al h hg q
  unfold gMin2 at hg
  split at hg
  · cases hg
    obtain ⟨v, w, rfl, r, r2⟩ := h.two
    exact ⟨_, _, by rw [r.int, r2.int], q _ _ (Same.refl _) (.int _)⟩
  · cases hg
def gGcd : List D → Option D
  | [.int i, .int j] => some (.int ((Nat.gcd i.natAbs j.natAbs : Nat) : Int))
  | _ => none
theorem cd_gcd : CallD X rGcd gGcd := by
  intro H M vs ds z Q al h hg q
  unfold gGcd at hg
  split at hg
  · cases hg
    obtain ⟨v, w, rfl, r, r2⟩ := h.two
    exact ⟨_, _, by rw [r.int, r2.int], q _ _ (Same.refl _) (.int _)⟩
  · cases hg
/-- len -/
def gLen : List D → Option D
  | [.str x] => some (.int x.length)
  | [.list ds] => some (.int ds.length)
  | [.tuple ds] => some (.int ds.length)
  | _ => none
theorem cd_len : CallD X (fun xs H Q => ∃ x n, xs = [x] ∧ LenV X.K x H n ∧ Q (.int n) H) gLen := by
  intro H M vs ds z Q al h hg q
  unfold gLen at hg
  split at hg
  · cases hg
    obtain ⟨v, rfl, r⟩ := h.one
    exact ⟨v, _, rfl, by rw [r.str.1]; exact ⟨r.str.2, rfl⟩, q _ _ (Same.refl _) (.int _)⟩
  · cases hg
    obtain ⟨v, rfl, r⟩ := h.one
    obtain ⟨a, ws, rfl, ea, _, ra⟩ := r.seqL
    exact ⟨_, _, rfl, .inl ⟨ws, ea, rfl⟩, q _ _ (Same.refl _) (by rw [ra.length]; exact .int _)⟩
  · cases hg
    obtain ⟨v, rfl, r⟩ := h.one
    obtain ⟨a, ws, rfl, ea, _, ra⟩ := r.seqT
    exact ⟨_, _, rfl, .inr ⟨ws, ea, rfl⟩, q _ _ (Same.refl _) (by rw [ra.length]; exact .int _)⟩
  · cases hg
/-- tuple(x) -/
def gTuple : List D → Option D
  | [.list ds] => some (.tuple ds)
  | [.tuple ds] => some (.tuple ds)
  | _ => none
theorem cd_tuple : CallD X (fun xs H Q => ∃ p ys, xs = [.ref p] ∧ ((SqL X.K H p ys ∧ ∀ l, H l = none → Q (.ref l) (upd H l (.tup ys))) ∨ (SqT X.K H p ys ∧ Q (.ref p) H))) gTuple := by
  intro H M vs ds z Q al h hg q
  unfold gTuple at hg
  split at hg
  · cases hg
    obtain ⟨v, rfl, r⟩ := h.one
    obtain ⟨a, ws, rfl, ea, hz, ra⟩ := r.seqL
    exact ⟨a, ws, rfl, .inl ⟨ea, fun l hl => q _ _ (same_new hl) (.tup upd_same (fun m => al l m hl) hz (ra.step (.grow (same_new hl)) _ _))⟩⟩
  · rename_i ds
    cases hg
    obtain ⟨v, rfl, r⟩ := h.one
    have r' : Rp (gs X) H M v (.tuple ds) := by
      rcases r with h | ⟨k, c, e1, m, w⟩
      · exact h
      · cases k <;> obtain ⟨vs, ds', e, _⟩ := w <;> cases e
    obtain ⟨a, ws, rfl, ea, hz, ra⟩ := r.seqT
    exact ⟨a, ws, rfl, .inr ⟨ea, q _ _ (Same.refl _) r'⟩⟩
  · cases hg
/-- list(x) of a list or tuple -/
def gList : List D → Option D
  | [.list ds] => some (.list ds)
  | [.tuple ds] => some (.list ds)
  | _ => none
theorem cf_list : CallF X .lst (fun xs H Q => ∃ p ys, xs = [.ref p] ∧ (SqL X.K H p ys ∨ SqT X.K H p ys) ∧ ∀ l, H l = none → Q (.ref l) (upd H l (.lst ys))) gList := by
  intro H M vs ds z Q al h hg q
  unfold gList at hg
  split at hg
  · cases hg
    obtain ⟨v, rfl, r⟩ := h.one
    obtain ⟨a, ws, rfl, ea, hz, ra⟩ := r.seqL
    exact ⟨a, ws, rfl, .inl (ea), fun l hl => q _ _ hl ⟨ws, _, rfl, upd_same, hz, ra.step (.more hl) _ _⟩⟩
  · cases hg
    obtain ⟨v, rfl, r⟩ := h.one
    obtain ⟨a, ws, rfl, ea, hz, ra⟩ := r.seqT
    exact ⟨a, ws, rfl, .inr ea, fun l hl => q _ _ hl ⟨ws, _, rfl, upd_same, hz, ra.step (.more hl) _ _⟩⟩
  · cases hg
/-! lists of numbers -/
def intsOf : List D → Option (List Int)
  | [] => some []
  | .int i :: ds => (intsOf ds).map fun is => i :: is
  | _ :: _ => none
theorem intsOf_some : ∀ {ds : List D} {ns : List Int}, intsOf ds = some ns → ds = ns.map PyData.int
  | [], _, h => by cases h; rfl
  | .int i :: ds, ns, h => by
    obtain ⟨is, e, rfl⟩ := Option.map_eq_some_iff.mp h
    rw [intsOf_some e] <;> rfl
  | .none :: _, _, h => by cases h
  | .bool _ :: _, _, h => by cases h
  | .str _ :: _, _, h => by cases h
  | .list _ :: _, _, h => by cases h
  | .tuple _ :: _, _, h => by cases h
  | .dict _ :: _, _, h => by cases h
theorem intsOf_map : ∀ ns : List Int, intsOf (ns.map PyData.int) = some ns
  | [] => rfl
  | n :: ns => by show (intsOf (ns.map PyData.int)).map _ = _; rw [intsOf_map ns]; rfl
def gSum : List D → Option D
  | [.list ds] => (intsOf ds).map fun ns => .int ns.sum
  | _ => none
theorem cd_sum : CallD X (rSum X.K) gSum := by
  intro H M vs ds z Q al h hg q
  unfold gSum at hg
  split at hg
  · obtain ⟨ns, e, rfl⟩ := Option.map_eq_some_iff.mp hg
    rw [intsOf_some e] at h
    obtain ⟨v, rfl, r⟩ := h.one
    obtain ⟨a, ws, rfl, ea, hz, ra⟩ := r.seqL
    rw [ra.ints] at ea
    exact ⟨a, ns, rfl, ea, q _ _ (Same.refl _) (.int _)⟩
  · cases hg
/-- the greatest, the least of some -/
def maxL : List Int → Int
  | [] => 0
  | n :: ns => ns.foldl max n
def minL : List Int → Int
  | [] => 0
  | n :: ns => ns.foldl min n
theorem foldl_max_ge : ∀ (ns : List Int) (a : Int), a ≤ ns.foldl max a ∧ ∀ n ∈ ns, n ≤ ns.foldl max a
  | [], a => ⟨Int.le_refl _, fun n hn => nomatch hn⟩
  | m :: ns, a => by
    obtain ⟨h1, h2⟩ := foldl_max_ge ns (max a m)
    refine ⟨Int.le_trans (Int.le_max_left a m) h1, fun n hn => ?_⟩
    rcases List.mem_cons.mp hn with e | hn
    · subst e; exact Int.le_trans (Int.le_max_right a n) h1
    · exact h2 n hn
theorem foldl_max_mem : ∀ (ns : List Int) (a : Int), ns.foldl max a = a ∨ ns.foldl max a ∈ ns
  | [], a => .inl rfl
  | m :: ns, a => by
    rcases foldl_max_mem ns (max a m) with h | h
    · rw [List.foldl_cons, h]
      rcases Int.le_total a m with q | q
      · rw [Int.max_eq_right q]; exact .inr List.mem_cons_self
      · rw [Int.max_eq_left q]; exact .inl rfl
    · exact .inr (List.mem_cons_of_mem _ h)
theorem foldl_min_le : ∀ (ns : List Int) (a : Int), ns.foldl min a ≤ a ∧ ∀ n ∈ ns, ns.foldl min a ≤ n
  | [], a => ⟨Int.le_refl _, fun n hn => nomatch hn⟩
  | m :: ns, a => by
    obtain ⟨h1, h2⟩ := foldl_min_le ns (min a m)
    refine ⟨Int.le_trans h1 (Int.min_le_left a m), fun n hn => ?_⟩
    rcases List.mem_cons.mp hn with e | hn
    · subst e; exact Int.le_trans h1 (Int.min_le_right a n)
    · exact h2 n hn
theorem foldl_min_mem : ∀ (ns : List Int) (a : Int), ns.foldl min a = a ∨ ns.foldl min a ∈ ns
  | [], a => .inl rfl
  | m :: ns, a => by
    rcases foldl_min_mem ns (min a m) with h | h
    · rw [List.foldl_cons, h]
      rcases Int.le_total a m with q | q
      · rw [Int.min_eq_left q]; exact .inl rfl
      · rw [Int.min_eq_right q]; exact .inr List.mem_cons_self
    · exact .inr (List.mem_cons_of_mem _ h)
theorem maxL_is {ns : List Int} {m : Int} (h : m ∈ ns) (g : ∀ y, y ∈ ns → y ≤ m) : maxL ns = m := by
  cases ns with
  | nil => cases h
  | cons n ns =>
    obtain ⟨h1, h2⟩ := foldl_max_ge ns n
    refine Int.le_antisymm ?_ ?_
    · rcases foldl_max_mem ns n with e | e
      · show ns.foldl max n ≤ m; rw [e]; exact g n List.mem_cons_self
      · exact g _ (List.mem_cons_of_mem _ e)
    · rcases List.mem_cons.mp h with e | e
      · subst e; exact h1
      · exact h2 m e
theorem minL_is {ns : List Int} {m : Int} (h : m ∈ ns) (g : ∀ y, y ∈ ns → m ≤ y) : minL ns = m := by
  cases ns with
  | nil => cases h
  | cons n ns =>
    obtain ⟨h1, h2⟩ := foldl_min_le ns n
    refine Int.le_antisymm ?_ ?_
    · rcases List.mem_cons.mp h with e | e
      · subst e; exact h1
      · exact h2 m e
    · rcases foldl_min_mem ns n with e | e
      · show m ≤ ns.foldl min n; rw [e]; exact g n List.mem_cons_self
      · exact g _ (List.mem_cons_of_mem _ e)
def gMaxL : List D → Option D
  | [.list ds] => (intsOf ds).bind fun ns => if ns = [] then none else some (.int (maxL ns))
  | _ => none
def gMinL : List D → Option D
  | [.list ds] => (intsOf ds).bind fun ns => if ns = [] then none else some (.int (minL ns))
  | _ => none
theorem cd_maxL : CallD X (rMax X.K) gMaxL := by
  intro H M vs ds z Q al h hg q
  unfold gMaxL at hg
  split at hg
  · obtain ⟨ns, e, h2⟩ := bind_some hg
    split at h2
    · cases h2
    · rename_i hne
      cases h2
      rw [intsOf_some e] at h
      obtain ⟨v, rfl, r⟩ := h.one
      obtain ⟨a, ws, rfl, ea, hz, ra⟩ := r.seqL
      rw [ra.ints] at ea
      refine ⟨a, ns, rfl, ea, List.length_pos_iff.mpr hne, fun m hm hg => q _ _ (Same.refl _) ?_⟩
      rw [maxL_is hm hg]
      exact .int _
  · cases hg
theorem cd_minL : CallD X (rMin X.K) gMinL := by
  intro H M vs ds z Q al h hg q
  unfold gMinL at hg
  split at hg
  · obtain ⟨ns, e, h2⟩ := bind_some hg
    split at h2
    · cases h2
    · rename_i hne
      cases h2
      rw [intsOf_some e] at h
      obtain ⟨v, rfl, r⟩ := h.one
      obtain ⟨a, ws, rfl, ea, hz, ra⟩ := r.seqL
      rw [ra.ints] at ea
      refine ⟨a, ns, rfl, ea, List.length_pos_iff.mpr hne, fun m hm hg => q _ _ (Same.refl _) ?_⟩
      rw [minL_is hm hg]
      exact .int _
  · cases hg
/-- isinstance with a built-in class -/
def tyD : D → Option String
  | .none => some "NoneType"
  | .bool _ => some "bool"
  | .int _ => some "int"
  | .str _ => some "str"
  | .list _ => some "list"
  | .tuple _ => some "tuple"
  | .dict _ => none
def isiD (T : String) (d : D) : Option D := (tyD d).bind fun t => (kitB t T).map .bool
theorem Rv.tyX {H : Hp} {M : Addr → Prop} {v : V} {d : D} {t : String} (h : Rv (gs X) H M v d) (e : tyD d = some t) : TyX X.K H v (.type t) := by
  cases d with
  | none => cases e; rw [h.non]; exact .base .non
  | bool b => cases e; rw [h.bl]; exact .base (.bl b)
  | int i => cases e; rw [h.int]; exact .base (.int i)
  | str x => cases e; rw [h.str.1]; exact .base (.str x)
  | list ds =>
    cases e
    obtain ⟨a, ws, rfl, ea, hz, ra⟩ := h.seqL
    rcases ea with (ea | ⟨o, ea⟩) | ⟨o, its, n, hk, hc, _⟩
    · exact .base (.lst ea)
    · exact .base (.frz ea)
    · exact .kList hk hc
  | tuple ds =>
    cases e
    obtain ⟨a, ws, rfl, ea, hz, ra⟩ := h.seqT
    rcases ea with (ea | ⟨o, ea⟩) | ⟨o, its, n, hk, hc, _⟩
    · exact .base (.tup ea)
    · exact .fTuple ea
    · exact .kTuple hk hc
  | dict ds => cases e
def dIsi (T : String) (fa : Env → Rs Arg) : Env → Rs D := fun ρ => (fa ρ).bind fun x ρ1 => opt ((x.get ρ1).bind (isiD T)) ρ1
theorem de_isi {p2 p3 : Pos} {tn : Str} (hg : Gl X "isinstance") (hm : X.mg "isinstance" = none) (hg2 : Gl X tn) (hm2 : X.mg tn = none) (hv2 : bootBuiltins tn = some (.type T)) (ha : DV X C a fa) (hn2 : tn ≠ "__name__" := by decide) (hdb2 : (tn == ("__debug__" : Str)) = false := by decide)
    (hv : bootBuiltins "isinstance" = some (.builtin "isinstance") := by decide +kernel)
    (he : starEach [a, .Name tn p2] X.env = (false, eval a X.env) :: starEach [.Name tn p2] X.env := by rfl) (he2 : starEach [.Name tn p2] X.env = (false, eval (.Name tn p2) X.env) :: starEach [] X.env := by rfl) (hpl : (backTo pos (starEach [.Name tn p2] X.env)).any (·.1) = false := by rfl) :
    DE X C (.Call (.Name "isinstance" p3) [a, .Name tn p2] [] pos) (dIsi T fa) := by
  obtain ⟨tx, px, qx⟩ := ha.ex
  refine ⟨_, pe_callB call_isi hg hm hv (pa_cons px (pa_cons (pe_bltn (v := .ty T) hg2 hm2 hv2 rfl hn2 hdb2) pa_nil he2) he) (by decide) (by decide) he hpl, fun Y σ H M ρ Q hl s w => ?_⟩
  refine qx Y σ H M ρ _ hl s (Wi.seq w fun x ρ1 v H1 M1 s1 st1 r1 w1 => ?_)
  obtain ⟨z, ez, q⟩ := w1.optD s1
  obtain ⟨d, h1, h2⟩ := bind_some ez
  obtain ⟨t, e1, e2⟩ := bind_some h2
  obtain ⟨k, e3, rfl⟩ := Option.map_eq_some_iff.mp e2
  exact ⟨v, .ty T, .type t, .type T, k, rfl, .ty T, (r1.rv s1 h1).tyX e1, kit_ty e3, q _ _ (Same.refl _) (.bl _)⟩
/-- *x among the items -/
def dStar (fa : Env → Rs Arg) (fr : Env → Rs (List Arg)) : Env → Rs (List Arg) := fun ρ => (fa ρ).bind fun x ρ1 => match x.get ρ1 with
  | some (.list ds) => (fr ρ1).bind fun xs ρ2 => .ok (ds.map .imm ++ xs) ρ2
  | some (.tuple ds) => (fr ρ1).bind fun xs ρ2 => .ok (ds.map .imm ++ xs) ρ2
  | _ => .bad
theorem ARs.append {K : Gs} {H : Hp} {M : Addr → Prop} {σ : L2.St} : ∀ {vs ws : List V} {xs ys : List Arg}, ARs K H M σ vs xs → ARs K H M σ ws ys → ARs K H M σ (vs ++ ws) (xs ++ ys)
  | _, _, _, _, .nil, s => s
  | _, _, _, _, .cons q r, s => .cons q (ARs.append r s)
theorem ARs.ofImm {K : Gs} {H : Hp} {M : Addr → Prop} {σ : L2.St} : ∀ {vs : List V} {ds : List D}, RpA K H M vs ds → ARs K H M σ vs (ds.map .imm)
  | _, _, .nil => .nil
  | _, _, .cons q r => .cons q (ARs.ofImm r)
theorem da_star {p2 : Pos} (ha : DV X C e fa) (hr : DA X C es fr) : DA X C (.Starred e p2 :: es) (dStar fa fr) := by
  obtain ⟨tx, px, qx⟩ := ha.ex
  obtain ⟨ty, py, qy⟩ := hr.ex
  refine ⟨fun σ H Q => tx σ H fun v H1 => ∃ a vs, v = .ref a ∧ (SqL X.K H1 a vs ∨ SqT X.K H1 a vs) ∧ ty σ H1 fun ws H2 => Q (vs ++ ws) H2, ⟨fun pos pins s σ H Q I h => ?_⟩, fun Y σ H M ρ Q hl s w => ?_⟩
  · refine PySem.W.items_star (thn (px.run pins s σ H _ I h) fun u s1 ⟨v, H1, I1, r1, a, vs, ev, hs, q1⟩ => ?_)
    subst ev
    obtain rfl : u = Value.ref a := r1
    have go : ∀ us s', Inv X pins σ H1 s' → Vals vs us → wpAny (model X.prog X.w) X.A (spliced (backTo pos (starEach es X.env))) (fun ws s3 => AP X pins σ Q (us ++ ws) s3) X.xe s' := fun us s' I' rv =>
      thn (py.run pos pins s' σ H1 _ I' q1) fun ws s3 ⟨zs, H3, I3, r3, q3⟩ => ⟨_, H3, I3, rv.append r3, q3⟩
    rcases hs with hs | hs
    · exact StX.star_lst I1 hs go
    · exact star_tup I1 hs go
  · refine qx Y σ H M ρ _ hl s (Wi.seq w fun x ρ1 v H1 M1 s1 st1 r1 w1 => ?_)
    cases ex : x.get ρ1 with
    | none => rw [ex] at w1; exact w1.elim
    | some d =>
      have rv := r1.rv s1 ex
      rw [ex] at w1
      cases d with
      | list ds =>
        obtain ⟨a, ws, rfl, ea, hz, ra⟩ := rv.seqL
        refine ⟨a, ws, rfl, .inl ea, qy Y σ H1 M1 ρ1 _ hl s1 (Wi.seq w1 fun xs ρ2 us H2 M2 s2 st2 r2 w2 => ?_)⟩
        exact w2 _ H2 M2 s2 .refl ((ARs.ofImm (ra.step st2 _ _)).append r2)
      | tuple ds =>
        obtain ⟨a, ws, rfl, ea, hz, ra⟩ := rv.seqT
        refine ⟨a, ws, rfl, .inr ea, qy Y σ H1 M1 ρ1 _ hl s1 (Wi.seq w1 fun xs ρ2 us H2 M2 s2 st2 r2 w2 => ?_)⟩
        exact w2 _ H2 M2 s2 .refl ((ARs.ofImm (ra.step st2 _ _)).append r2)
      | _ => exact w1.elim
end
end DL
end

section
set_option Elab.async false
set_option autoImplicit false
set_option linter.all false
set_option maxRecDepth 100000
set_option maxHeartbeats 1000000
/-! DL7: statements by data. -/
namespace DL
open PySem PySem.Spec PyProof.Rows L2

inductive Rt
  | nx (ρ : Env)
  | rt (d : D) (ρ : Env)
  | rtf (k : Kd) (d : D) (ρ : Env)
  | bk (ρ : Env)
  | ct (ρ : Env)
  | exn (c : Addr) (ρ : Env)
  | bad
def WS (K : Gs) (C : Cs) (Y : Dy) (H : Hp) (M : Addr → Prop) (r : Rt) (Dn : Ends) : Prop := match r with
  | .nx ρ' => ∀ σ' H' M', SR K Y σ' H' M' ρ' → Stp H M H' M' → Dn.nx σ' H'
  | .bk ρ' => ∀ σ' H' M', SR K Y σ' H' M' ρ' → Stp H M H' M' → Dn.bk σ' H'
  | .ct ρ' => ∀ σ' H' M', SR K Y σ' H' M' ρ' → Stp H M H' M' → Dn.ct σ' H'
  | .rt d ρ' => ∀ v σ' H' M', SR K Y σ' H' M' ρ' → Stp H M H' M' → Rp K H' M' v d → Dn.rt v H'
  | .rtf k d ρ' => ∀ a σ' H' M', SR K Y σ' H' M' ρ' → Stp H M H' M' → M' a → Y.H0 a = none → OwnAt K H' M' k a d → Dn.rt (.ref a) H'
  | .exn c ρ' => ∀ σ' H' M', SR K Y σ' H' M' ρ' → C.Ex (.ref c) none H'
  | .bad => False
theorem WS.step {K : Gs} {C : Cs} {Y : Dy} {H H1 : Hp} {M M1 : Addr → Prop} {r : Rt} {Dn : Ends} (w : WS K C Y H M r Dn) (st : Stp H M H1 M1) : WS K C Y H1 M1 r Dn := by
  cases r with
  | nx ρ => exact fun σ' H' M' s q => w σ' H' M' s (st.trans q)
  | bk ρ => exact fun σ' H' M' s q => w σ' H' M' s (st.trans q)
  | ct ρ => exact fun σ' H' M' s q => w σ' H' M' s (st.trans q)
  | rt d ρ => exact fun v σ' H' M' s q => w v σ' H' M' s (st.trans q)
  | rtf k d ρ => exact fun a σ' H' M' s q => w a σ' H' M' s (st.trans q)
  | exn c ρ => exact w
  | bad => exact w
/-- the same with other ends -/
theorem WS.ends {K : Gs} {C : Cs} {Y : Dy} {H : Hp} {M : Addr → Prop} {r : Rt} {Dn Dn' : Ends} (w : WS K C Y H M r Dn) (h1 : ∀ σ H, Dn.nx σ H → Dn'.nx σ H) (h2 : ∀ σ H, Dn.bk σ H → Dn'.bk σ H) (h3 : ∀ σ H, Dn.ct σ H → Dn'.ct σ H) (h4 : ∀ σ H, Dn.rt σ H → Dn'.rt σ H) : WS K C Y H M r Dn' := by
  cases r with
  | nx ρ => exact fun σ' H' M' s q => h1 _ _ (w σ' H' M' s q)
  | bk ρ => exact fun σ' H' M' s q => h2 _ _ (w σ' H' M' s q)
  | ct ρ => exact fun σ' H' M' s q => h3 _ _ (w σ' H' M' s q)
  | rt d ρ => exact fun v σ' H' M' s q r => h4 _ _ (w v σ' H' M' s q r)
  | rtf k d ρ => exact fun a σ' H' M' s q m z o => h4 _ _ (w a σ' H' M' s q m z o)
  | exn c ρ => exact w
  | bad => exact w
structure D1 (X : Cx) (C : Cs) (st : Stmt) (f : Env → Rt) : Prop where
  ex : ∃ t, PS X st t ∧ ∀ (Y : Dy) (σ : L2.St) (H : Hp) (M : Addr → Prop) (ρ : Env) (Dn : Ends), LsOk C Y → SR (gs X) Y σ H M ρ → WS (gs X) C Y H M (f ρ) Dn → t Dn σ H
structure DS (X : Cx) (C : Cs) (sts : List Stmt) (f : Env → Rt) : Prop where
  ex : ∃ t, PSs X sts t ∧ ∀ (Y : Dy) (σ : L2.St) (H : Hp) (M : Addr → Prop) (ρ : Env) (Dn : Ends), LsOk C Y → SR (gs X) Y σ H M ρ → WS (gs X) C Y H M (f ρ) Dn → t Dn σ H
/-- a value, and on -/
def Rs.to {α : Type} (r : Rs α) (k : α → Env → Rt) : Rt := match r with
  | .ok a ρ => k a ρ
  | .exn c ρ => .exn c ρ
  | .bad => .bad
theorem Wi.to {α β : Type} {K : Gs} {C : Cs} {Y : Dy} {σ : L2.St} {H : Hp} {M : Addr → Prop} {R : Env → Hp → (Addr → Prop) → β → α → Prop} {r : Rs α} {k : α → Env → Rt} {Dn : Ends} {Q : β → Hp → Prop}
    (w : WS K C Y H M (r.to k) Dn) (hk : ∀ x ρ' v H' M', SR K Y σ H' M' ρ' → Stp H M H' M' → R ρ' H' M' v x → WS K C Y H' M' (k x ρ') Dn → Q v H') : Wi K C Y σ H M R r Q := by
  cases r with
  | ok x ρ' => exact fun v H' M' s st q => hk x ρ' v H' M' s st q (WS.step w st)
  | exn c ρ' => exact fun H' M' s => w σ H' M' s
  | bad => exact w
section
variable {X : Cx} {C : Cs} {st : Stmt} {sts : List Stmt} {e a b c : Expr} {es : List Expr} {fa fb : Env → Rs Arg} {f f' : Env → Rs D} {ta : Env → Rs Bool} {fr : Env → Rs (List Arg)} {g h : Env → Rt} {pos : Pos}
def dSeq (g h : Env → Rt) : Env → Rt := fun ρ => match g ρ with
  | .nx ρ1 => h ρ1
  | r => r
def dNext : Env → Rt := fun ρ => .nx ρ
theorem ds_nil : DS X C [] dNext := ⟨_, pss_nil, fun Y σ H M ρ Dn hl s w => w σ H M s .refl⟩
theorem ds_cons (h1 : D1 X C st g) (h2 : DS X C sts h) : DS X C (st :: sts) (dSeq g h) := by
  obtain ⟨t, pt, qt⟩ := h1.ex
  obtain ⟨u, pu, qu⟩ := h2.ex
  refine ⟨_, pss_cons pt pu, fun Y σ H M ρ Dn hl s w => ?_⟩
  refine qt Y σ H M ρ _ hl s ?_
  unfold dSeq at w
  cases e : g ρ with
  | nx ρ1 => rw [e] at w; exact fun σ' H' M' s' q => qu Y σ' H' M' ρ1 Dn hl s' (WS.step w q)
  | bk ρ1 => rw [e] at w; exact w
  | ct ρ1 => rw [e] at w; exact w
  | rt d ρ1 => rw [e] at w; exact w
  | rtf k d ρ1 => rw [e] at w; exact w
  | exn c ρ1 => rw [e] at w; exact w
  | bad => rw [e] at w; exact w
theorem ds_one (h1 : D1 X C st g) : DS X C [st] g := by
  obtain ⟨t, pt, qt⟩ := h1.ex
  exact ⟨_, pss_one pt, qt⟩
def dBreak : Env → Rt := fun ρ => .bk ρ
def dCont : Env → Rt := fun ρ => .ct ρ
theorem d1_pass : D1 X C (.Pass pos) dNext := ⟨_, ps_pass, fun Y σ H M ρ Dn hl s w => w σ H M s .refl⟩
theorem d1_break : D1 X C (.Break pos) dBreak := ⟨_, ps_break, fun Y σ H M ρ Dn hl s w => w σ H M s .refl⟩
theorem d1_cont : D1 X C (.Continue pos) dCont := ⟨_, ps_continue, fun Y σ H M ρ Dn hl s w => w σ H M s .refl⟩
def dDrop (f : Env → Rs D) : Env → Rt := fun ρ => (f ρ).to fun _ ρ1 => .nx ρ1
theorem d1_expr (he : DE X C e f) (hs : swapsWith e none pos.line X.env = pure false := by rfl) : D1 X C (.Expr e pos) (dDrop f) := by
  obtain ⟨t, pt, qt⟩ := he.ex
  refine ⟨_, ps_expr pt hs, fun Y σ H M ρ Dn hl s w => ?_⟩
  exact qt Y σ H M ρ _ hl s (Wi.to w fun x ρ1 v H1 M1 s1 st1 r1 w1 => w1 σ H1 M1 s1 .refl)
def dRet (f : Env → Rs D) : Env → Rt := fun ρ => (f ρ).to fun d ρ1 => .rt d ρ1
theorem d1_ret (he : DE X C e f) : D1 X C (.Return (some e) pos) (dRet f) := by
  obtain ⟨t, pt, qt⟩ := he.ex
  refine ⟨_, ps_ret pt, fun Y σ H M ρ Dn hl s w => ?_⟩
  exact qt Y σ H M ρ _ hl s (Wi.to w fun x ρ1 v H1 M1 s1 st1 r1 w1 => w1 v σ H1 M1 s1 .refl r1)
def dRetF (k : Kd) (f : Env → Rs D) : Env → Rt := fun ρ => (f ρ).to fun d ρ1 => .rtf k d ρ1
theorem d1_retF {k : Kd} (he : DF X C k e f) : D1 X C (.Return (some e) pos) (dRetF k f) := by
  obtain ⟨t, pt, qt⟩ := he.ex
  refine ⟨_, ps_ret pt, fun Y σ H M ρ Dn hl s w => ?_⟩
  refine qt Y σ H M ρ _ hl s (Wi.to w fun x ρ1 v H1 M1 s1 st1 r1 w1 => ?_)
  obtain ⟨a, rfl, ma, h0, no, ow⟩ := r1
  exact w1 a σ H1 M1 s1 .refl ma h0 ow
/-- return x, x one's own -/
def dRetO (i : Nat) : Env → Rt := fun ρ => match ρ[i]? with
  | some (some (.own k d)) => .rtf k d ρ
  | _ => .bad
theorem SR.ownAt {K : Gs} {Y : Dy} {σ : L2.St} {H : Hp} {M : Addr → Prop} {ρ : Env} (s : SR K Y σ H M ρ) {i : Nat} {k : Kd} {d : D} (e : ρ[i]? = some (some (.own k d))) : ∃ a, OwnSl σ ρ i a ∧ M a ∧ OwnAt K H M k a d := by
  obtain ⟨v, e1, a, rfl, m, r⟩ := s.slot i _ e
  exact ⟨a, ⟨⟨k, d, e⟩, e1⟩, m, r⟩
theorem d1_retO {i : Nat} {x : Str} {p2 : Pos} (hN : X.N[i]? = some x) (hv : Vis X.env.scope x) (hi : C.LS.contains i = false) (hd : (x == ("__debug__" : Str)) = false := by decide) (hcd : (x == ("__classdict__" : Str)) = false := by decide) : D1 X C (.Return (some (.Name x p2)) pos) (dRetO i) := by
  refine ⟨_, ps_ret (pe_var hN hv hd hcd), fun Y σ H M ρ Dn hl s w => ?_⟩
  unfold dRetO at w
  split at w
  · rename_i k d e
    obtain ⟨a, os, m, ow⟩ := s.ownAt e
    exact ⟨_, os.2, w a σ H M s .refl m (s.mine os (hl.ne hi)) ow⟩
  · exact w.elim
def dRetN : Env → Rt := fun ρ => .rt .none ρ
theorem d1_retN : D1 X C (.Return none pos) dRetN := ⟨_, ps_retN, fun Y σ H M ρ Dn hl s w => w _ σ H M s .refl .non⟩
def dIf (t : Env → Rs Bool) (g h : Env → Rt) : Env → Rt := fun ρ => (t ρ).to fun k ρ1 => if k = true then g ρ1 else h ρ1
theorem d1_if {sa sb : List Stmt} (hc : DT X C c ta) (ha : DS X C sa g) (hb : DS X C sb h) : D1 X C (.If c sa sb pos) (dIf ta g h) := by
  obtain ⟨t, pt, qt⟩ := hc.ex
  obtain ⟨u, pu, qu⟩ := ha.ex
  obtain ⟨z, pz, qz⟩ := hb.ex
  refine ⟨_, ps_if pt pu pz, fun Y σ H M ρ Dn hl s w => ?_⟩
  refine qt Y σ H M ρ _ hl s (Wi.to w fun x ρ1 v H1 M1 s1 st1 r1 w1 => ?_)
  have e : v = x := r1
  subst e
  cases v with
  | true => exact qu Y σ H1 M1 ρ1 Dn hl s1 w1
  | false => exact qz Y σ H1 M1 ρ1 Dn hl s1 w1
/-! ### targets -/
/-- the slots outside of ix are as they were -/
structure Ch (ix : List Nat) (σ σ' : L2.St) : Prop where
  len : σ'.length = σ.length
  out : ∀ j, j ∉ ix → σ'[j]? = σ[j]?
theorem Ch.refl {ix : List Nat} {σ : L2.St} : Ch ix σ σ := ⟨rfl, fun _ _ => rfl⟩
theorem Ch.trans {ix jx : List Nat} {σ σ' σ'' : L2.St} (a : Ch ix σ σ') (b : Ch jx σ' σ'') : Ch (ix ++ jx) σ σ'' :=
  ⟨b.len.trans a.len, fun j h => (b.out j (fun z => h (List.mem_append_right _ z))).trans (a.out j (fun z => h (List.mem_append_left _ z)))⟩
structure DG (X : Cx) (C : Cs) (tg : Expr) (ix : List Nat) (g : D → Env → Option Env) : Prop where
  ex : ∃ t, PG X tg t ∧ ∀ (Y : Dy) (σ : L2.St) (H : Hp) (M : Addr → Prop) (ρ ρ' : Env) (v : V) (d : D) (Q : L2.St → Hp → Prop), LsOk C Y → SR (gs X) Y σ H M ρ → Rp (gs X) H M v d → g d ρ = some ρ' → (∀ σ', SR (gs X) Y σ' H M ρ' → Ch ix σ σ' → Q σ' H) → t v σ H Q
structure DGs (X : Cx) (C : Cs) (tgs : List Expr) (ix : List Nat) (g : List D → Env → Option Env) : Prop where
  ex : ∃ t, PGs X tgs t ∧ ∀ (Y : Dy) (σ : L2.St) (H : Hp) (M : Addr → Prop) (ρ ρ' : Env) (vs : List V) (ds : List D) (Q : L2.St → Hp → Prop), LsOk C Y → SR (gs X) Y σ H M ρ → RpA (gs X) H M vs ds → g ds ρ = some ρ' → (∀ σ', SR (gs X) Y σ' H M ρ' → Ch ix σ σ' → Q σ' H) → t vs σ H Q
theorem SR.setV {K : Gs} {Y : Dy} {σ : L2.St} {H : Hp} {M : Addr → Prop} {ρ : Env} (s : SR K Y σ H M ρ) {i : Nat} {v : V} {d : D} (h : Rp K H M v d) (hl : ∀ p ∈ Y.ls, p.1 ≠ i) : SR K Y (σ.set i (some v)) H M (ρ.set i (some (.val d))) :=
  s.set (c := .val d) h hl (fun _ _ _ e => nomatch e)
def gN (i : Nat) : D → Env → Option Env := fun d ρ => some (ρ.set i (some (.val d)))
theorem dg_name {i : Nat} {x : Str} (hN : X.N.Nodup) (hi : X.N[i]? = some x) (hx : Loc X.env.scope x) (hf : X.fn x = true ∨ X.env.scope.names.lookup x = some .local) (hls : C.LS.contains i = false) : DG X C (.Name x pos) [i] (gN i) := by
  refine ⟨_, pg_name hN hi hx hf, fun Y σ H M ρ ρ' v d Q hl s r e q => ?_⟩
  cases e
  exact q _ (s.setV r (hl.ne hls)) ⟨by simp, fun j hj => List.getElem?_set_ne (fun z => hj (by simp [z]))⟩
def gsNil : List D → Env → Option Env := fun ds ρ => match ds with
  | [] => some ρ
  | _ => none
def gsCons (g : D → Env → Option Env) (h : List D → Env → Option Env) : List D → Env → Option Env := fun ds ρ => match ds with
  | d :: ds => (g d ρ).bind fun ρ1 => h ds ρ1
  | [] => none
theorem dgs_nil : DGs X C [] [] gsNil := by
  refine ⟨_, pgs_nil, fun Y σ H M ρ ρ' vs ds Q hl s r e q => ?_⟩
  cases r with
  | nil => cases e; exact ⟨rfl, q _ s .refl⟩
  | cons _ _ => cases e
theorem dgs_cons {ix jx : List Nat} {g : D → Env → Option Env} {h : List D → Env → Option Env} (h1 : DG X C e ix g) (h2 : DGs X C es jx h) (hs : (assignEach (e :: es) X.env).map (·.2) = assign e X.env :: (assignEach es X.env).map (·.2) := by rfl) : DGs X C (e :: es) (ix ++ jx) (gsCons g h) := by
  obtain ⟨t, pt, qt⟩ := h1.ex
  obtain ⟨u, pu, qu⟩ := h2.ex
  refine ⟨_, pgs_cons pt pu hs, fun Y σ H M ρ ρ' vs ds Q hl s r e q => ?_⟩
  cases r with
  | nil => cases e
  | cons q1 q2 =>
    obtain ⟨ρ1, e1, e2⟩ := bind_some e
    exact ⟨_, _, rfl, qt Y σ H M ρ ρ1 _ _ _ hl s q1 e1 fun σ1 s1 c1 => qu Y σ1 H M ρ1 ρ' _ _ Q hl s1 q2 e2 fun σ2 s2 c2 => q σ2 s2 (c1.trans c2)⟩
def gT (g : List D → Env → Option Env) (n : Nat) : D → Env → Option Env := fun d ρ => match d with
  | .tuple ds => if ds.length = n then g ds ρ else none
  | _ => none
theorem dg_tup {es : List Expr} {k n : Nat} {ix : List Nat} {g : List D → Env → Option Env} (hc : X.calm = true) (h : DGs X C es ix g) (hn : (assignEach es X.env).length = n := by rfl) (hst : (assignEach es X.env).findIdx? (·.1) = none := by rfl) : DG X C (.Tuple es k pos) ix (gT g n) := by
  obtain ⟨t, pt, qt⟩ := h.ex
  refine ⟨_, pg_tup hc pt hn hst, fun Y σ H M ρ ρ' v d Q hl s r e q => ?_⟩
  cases d with
  | tuple ds =>
    have e' : (if ds.length = n then g ds ρ else none) = some ρ' := e
    split at e'
    · rename_i hlen
      obtain ⟨a, xs, rfl, sq, hz, ra⟩ := r.seqT
      exact ⟨a, xs, rfl, sq, by rw [ra.length]; exact hlen, qt Y σ H M ρ ρ' xs ds Q hl s ra e' q⟩
    · cases e'
  | _ => cases e
/-! ### stores -/
def optE (o : Option Env) : Rt := match o with
  | some ρ => .nx ρ
  | none => .bad
def dAsg (f : Env → Rs D) (g : D → Env → Option Env) : Env → Rt := fun ρ => (f ρ).to fun d ρ1 => optE (g d ρ1)
theorem d1_asg {tg : Expr} {ix : List Nat} {g : D → Env → Option Env} (he : DE X C e f) (hg : DG X C tg ix g) (hs : swapsWithSole [tg] e pos.line X.env = pure false := by rfl) (hw : swappedStores [tg] e X.env = pure none := by rfl)
    (h1 : (assignEach [tg] X.env).map (·.2) = [assign tg X.env] := by rfl) : D1 X C (.Assign [tg] e pos) (dAsg f g) := by
  obtain ⟨t, pt, qt⟩ := he.ex
  obtain ⟨u, pu, qu⟩ := hg.ex
  refine ⟨_, ps_asg pt pu hs hw h1, fun Y σ H M ρ Dn hl s w => ?_⟩
  refine qt Y σ H M ρ _ hl s (Wi.to w fun x ρ1 v H1 M1 s1 st1 r1 w1 => ?_)
  cases e2 : g x ρ1 with
  | none => rw [e2] at w1; exact w1.elim
  | some ρ2 => rw [e2] at w1; exact qu Y σ H1 M1 ρ1 ρ2 v x _ hl s1 r1 e2 fun σ' s' _ => w1 σ' H1 M1 s' .refl
def dSet (i : Nat) (f : Env → Rs D) : Env → Rt := fun ρ => (f ρ).to fun d ρ1 => .nx (ρ1.set i (some (.val d)))
theorem d1_set {i : Nat} {x : Str} {pos' : Pos} (hN : X.N.Nodup) (hi : X.N[i]? = some x) (hx : Loc X.env.scope x) (hls : C.LS.contains i = false) (he : DE X C e f) (hs : swapsWith e (some (.Name x pos')) pos.line X.env = pure false := by rfl) (hf : X.fn x = true ∨ X.env.scope.names.lookup x = some .local := by first | exact .inl rfl | exact .inr rfl | assumption) :
    D1 X C (.Assign [.Name x pos'] e pos) (dSet i f) := by
  obtain ⟨t, pt, qt⟩ := he.ex
  refine ⟨_, ps_set hN hi hx pt hs hf, fun Y σ H M ρ Dn hl s w => ?_⟩
  exact qt Y σ H M ρ _ hl s (Wi.to w fun d ρ1 v H1 M1 s1 st1 r1 w1 => w1 _ H1 M1 (s1.setV r1 (hl.ne hls)) .refl)
/-- x = a new object, to be x's own -/
def dSetF (i : Nat) (k : Kd) (f : Env → Rs D) : Env → Rt := fun ρ => (f ρ).to fun d ρ1 => .nx (ρ1.set i (some (.own k d)))
theorem d1_setF {i : Nat} {k : Kd} {x : Str} {pos' : Pos} (hN : X.N.Nodup) (hi : X.N[i]? = some x) (hx : Loc X.env.scope x) (hls : C.LS.contains i = false) (he : DF X C k e f) (hs : swapsWith e (some (.Name x pos')) pos.line X.env = pure false := by rfl) (hf : X.fn x = true ∨ X.env.scope.names.lookup x = some .local := by first | exact .inl rfl | exact .inr rfl | assumption) :
    D1 X C (.Assign [.Name x pos'] e pos) (dSetF i k f) := by
  obtain ⟨t, pt, qt⟩ := he.ex
  refine ⟨_, ps_set hN hi hx pt hs hf, fun Y σ H M ρ Dn hl s w => ?_⟩
  refine qt Y σ H M ρ _ hl s (Wi.to w fun d ρ1 v H1 M1 s1 st1 r1 w1 => ?_)
  obtain ⟨a, rfl, ma, h0, no, ow⟩ := r1
  refine w1 _ H1 M1 (s1.set (c := .own k d) ⟨a, rfl, ma, ow⟩ (hl.ne hls) fun k' d' b e1 e2 => ?_) .refl
  cases e2
  exact ⟨no, .inr h0⟩
/-- a, b = x, y -/
def dPar (i j : Nat) (fr : Env → Rs (List Arg)) : Env → Rt := fun ρ => (fr ρ).to fun xs ρ1 => match xs with
  | [.imm d, .imm e] => .nx ((ρ1.set i (some (.val d))).set j (some (.val e)))
  | _ => .bad
theorem d1_par {i j : Nat} {x y : Str} {px py pt : Pos} {kt k2 : Nat} {pt2 : Pos} (hc : X.calm = true) (hN : X.N.Nodup) (hi : X.N[i]? = some x) (hj : X.N[j]? = some y) (hij : i ≠ j)
    (hx : X.env.scope.names.lookup x = some .local) (hy : X.env.scope.names.lookup y = some .local) (hls : C.LS.contains i = false) (hls2 : C.LS.contains j = false) (ha : DA X C [a, b] fr)
    (hw : swappedStores [.Tuple [.Name x px, .Name y py] kt pt] (.Tuple [a, b] k2 pt2) X.env = pure (some [x, y]))
    (hs : swapsWithSole [.Tuple [.Name x px, .Name y py] kt pt] (.Tuple [a, b] k2 pt2) pos.line X.env = pure false := by rfl) :
    D1 X C (.Assign [.Tuple [.Name x px, .Name y py] kt pt] (.Tuple [a, b] k2 pt2) pos) (dPar i j fr) := by
  obtain ⟨t, pt, qt⟩ := ha.ex
  refine ⟨_, ps_par hc hN hi hj hij hx hy pt hw hs, fun Y σ H M ρ Dn hl s w => ?_⟩
  refine qt Y σ H M ρ _ hl s (Wi.to w fun xs ρ1 vs H1 M1 s1 st1 r1 w1 => ?_)
  split at w1
  · cases r1 with
    | cons q1 r2 => cases r2 with
      | cons q2 r3 =>
        cases r3
        exact ⟨_, _, rfl, w1 _ H1 M1 ((s1.setV q1 (hl.ne hls)).setV q2 (hl.ne hls2)) .refl⟩
  · exact w1.elim
/-- x op= e, numbers -/
def IpD (X : Cx) (r : TIp) (g : D → D → Option D) : Prop :=
  ∀ (H : Hp) (M : Addr → Prop) (x y : V) (d e z : D) (Q : VK), (∀ a, M a → H a ≠ none) → Rp (gs X) H M x d → Rp (gs X) H M y e → g d e = some z → (∀ v H', Same H H' → Rp (gs X) H' M v z → Q v H') → r x y H Q
def dAug (i : Nat) (g : D → D → Option D) (f : Env → Rs D) : Env → Rt := fun ρ => match ρ[i]? with
  | some (some (.val d)) => (f ρ).to fun e ρ1 => match g d e with
    | some z => .nx (ρ1.set i (some (.val z)))
    | none => .bad
  | _ => .bad
theorem d1_aug {i : Nat} {x : Str} {op : Operator} {ti : TIp} {g : D → D → Option D} {pos' : Pos} (hN : X.N.Nodup) (hi : X.N[i]? = some x) (hx : Loc X.env.scope x) (hls : C.LS.contains i = false) (he : DE X C e f) (ho : PIp X op ti) (hg : IpD X ti g) (hf : X.fn x = true ∨ X.env.scope.names.lookup x = some .local := by first | exact .inl rfl | exact .inr rfl | assumption) :
    D1 X C (.AugAssign (.Name x pos') op e pos) (dAug i g f) := by
  obtain ⟨t, pt, qt⟩ := he.ex
  refine ⟨_, ps_aug hN hi hx pt ho hf, fun Y σ H M ρ Dn hl s w => ?_⟩
  unfold dAug at w
  split at w
  · rename_i d e1
    obtain ⟨v, e2, r⟩ := s.slot i _ e1
    have rv : Rp (gs X) H M v d := r
    refine ⟨v, e2, qt Y σ H M ρ _ hl s (Wi.to w fun e3 ρ1 u H1 M1 s1 st1 r1 w1 => ?_)⟩
    cases e4 : g d e3 with
    | none => rw [e4] at w1; exact w1.elim
    | some z =>
      rw [e4] at w1
      exact hg H1 M1 v u d e3 z _ s1.al (rv.step st1 _ _) r1 e4 fun v' H' g' r' => w1 _ H' M1 ((s1.grow g').setV r' (hl.ne hls)) (.grow g')
  · exact w.elim
theorem id_sub : IpD X (ipI fun i j => i - j) dSub := by
  intro H M x y d e z Q al hx hy hg q
  unfold dSub at hg
  split at hg
  · cases hg; cases hx; cases hy; exact ⟨_, _, rfl, rfl, q _ _ (Same.refl _) (.int _)⟩
  · cases hg
/-- numbers alone -/
def dAddI : D → D → Option D
  | .int i, .int j => some (.int (i + j))
  | _, _ => none
theorem id_addI : IpD X (ipI fun i j => i + j) dAddI := by
  intro H M x y d e z Q al hx hy hg q
  unfold dAddI at hg
  split at hg
  · cases hg; cases hx; cases hy; exact ⟨_, _, rfl, rfl, q _ _ (Same.refl _) (.int _)⟩
  · cases hg
/-- from here on nobody changes what i holds -/
def frz (i : Nat) (ρ : Env) : Env := match ρ[i]? with
  | some (some (.own _ d)) => ρ.set i (some (.val d))
  | _ => ρ
theorem SR.frz {K : Gs} {C : Cs} {Y : Dy} {σ : L2.St} {H : Hp} {M : Addr → Prop} {ρ : Env} (s : SR K Y σ H M ρ) {i : Nat} (hl : LsOk C Y) (hi : C.LS.contains i = false) : ∃ M', SR K Y σ H M' (frz i ρ) ∧ Stp H M H M' := by
  unfold DL.frz
  split
  · rename_i k d e
    obtain ⟨a, os, m, ow⟩ := s.ownAt e
    have h0 := s.mine os (hl.ne hi)
    have less : ∀ b, Mm M a b → M b := fun _ q => q.1
    have s1 := s.kill i (hl.ne hi)
    have no : ∀ j, ¬ OwnSl σ (ρ.set i none) j a := fun j q => by
      obtain ⟨⟨k', d', e3⟩, e4⟩ := q
      rcases getElem?_set' e3 with ⟨_, _, e5⟩ | ⟨n, e5⟩
      · cases e5
      · exact n (s.inj j i a ⟨⟨k', d', e5⟩, e4⟩ os)
    have s2 := s1.drop1 h0 no
    have r : Rp K H (Mm M a) (.ref a) d := ow.rp less fun z => z.2 rfl
    have s3 := s2.setV (i := i) r (hl.ne hi)
    have es : σ.set i (some (.ref a)) = σ := by
      refine List.ext_getElem? fun j => ?_
      by_cases hj : i = j
      · subst hj
        have : i < σ.length := (List.getElem?_eq_some_iff.mp os.2).1
        rw [List.getElem?_set_self this, os.2]
      · rw [List.getElem?_set_ne hj]
    rw [es, List.set_set] at s3
    exact ⟨_, s3, .less less⟩
  · exact ⟨M, s, .refl⟩
theorem ds_frz (i : Nat) (hi : C.LS.contains i = false) (h1 : DS X C sts g) : DS X C sts (fun ρ => g (frz i ρ)) := by
  obtain ⟨t, pt, qt⟩ := h1.ex
  refine ⟨_, pt, fun Y σ H M ρ Dn hl s w => ?_⟩
  obtain ⟨M', s', st⟩ := s.frz hl hi
  exact qt Y σ H M' _ Dn hl s' (WS.step w st)
/-- slots forgotten -/
def kill : List Nat → Env → Env
  | [], ρ => ρ
  | i :: is, ρ => kill is (ρ.set i none)
theorem srKills {K : Gs} {C : Cs} {Y : Dy} {σ : L2.St} {H : Hp} {M : Addr → Prop} (hl : LsOk C Y) : ∀ (is : List Nat) {ρ : Env}, (is.all fun i => !C.LS.contains i) = true → SR K Y σ H M ρ → SR K Y σ H M (DL.kill is ρ)
  | [], _, _, s => s
  | i :: is, ρ, h, s => by
    rw [List.all_cons, Bool.and_eq_true] at h
    exact srKills hl is h.2 (SR.kill s i (hl.ne (by simpa using h.1)))
/-! ### what a slot owns: its methods, stores -/
theorem tyV_lst {K : Fg} {H : Hp} {a : Addr} {xs : List V} (h : H a = some (.lst xs)) : tyV K "list" (.ref a) H := .inl ⟨rfl, xs, .of h⟩
theorem own_lst {K : Gs} {H : Hp} {M : Addr → Prop} {k : Kd} {a : Addr} {ds : List D} (h : OwnAt K H M k a (.list ds)) : ∃ vs, H a = some (.lst vs) ∧ vs.length ≤ sizeLine ∧ RpA K H M vs ds := by
  cases k with
  | lst => obtain ⟨vs, ds', e, e2, z, r⟩ := h; cases e; exact ⟨vs, e2, z, r⟩
  | dK => obtain ⟨vs, ds', e, _⟩ := h; cases e
  | dN => obtain ⟨vs, ds', e, _⟩ := h; cases e
/-- a method of a list by data: what it gives, the list behind it -/
def MtD (X : Cx) (r : V → List V → Hp → VK → Prop) (m : List D → List D → Option (D × List D)) : Prop :=
  ∀ (H : Hp) (M : Addr → Prop) (a : Addr) (vs args : List V) (ds as : List D) (z : D) (ds' : List D) (Q : VK), H a = some (.lst vs) → vs.length ≤ sizeLine → RpA (gs X) H M vs ds → RpA (gs X) H M args as → m ds as = some (z, ds') →
    (∀ v ws, ws.length ≤ sizeLine → RpA (gs X) H M ws ds' → Rp (gs X) H M v z → Q v (upd H a (.lst ws))) → r (.ref a) args H Q
def dMt (i : Nat) (m : List D → List D → Option (D × List D)) (fr : Env → Rs (List Arg)) : Env → Rs D := fun ρ => match ρ[i]? with
  | some (some (.own _ (.list _))) => (fr ρ).bind fun xs ρ1 => match ρ1[i]? with
    | some (some (.own _ (.list ds))) => match (immAll xs).bind (m ds) with
      | some (z, ds') => .ok z (ρ1.set i (some (.own .lst (.list ds'))))
      | none => .bad
    | _ => .bad
  | _ => .bad
theorem mt_core {r : V → List V → Hp → VK → Prop} {m : List D → List D → Option (D × List D)} {t : TA} {i : Nat} (hm : MtD X r m)
    (qx : ∀ (Y : Dy) (σ : L2.St) (H : Hp) (M : Addr → Prop) (ρ : Env) (Q : List V → Hp → Prop), LsOk C Y → SR (gs X) Y σ H M ρ → Wi (gs X) C Y σ H M (RAs (gs X) σ) (fr ρ) Q → t σ H Q)
    {Y : Dy} {σ : L2.St} {H : Hp} {M : Addr → Prop} {ρ : Env} {Q : VK} (hl : LsOk C Y) (s : SR (gs X) Y σ H M ρ) (w : Wi (gs X) C Y σ H M (RD (gs X)) (dMt i m fr ρ) Q) :
    ∃ a, σ[i]? = some (some (.ref a)) ∧ tyV X.K "list" (.ref a) H ∧ t σ H fun vs H1 => r (.ref a) vs H1 Q := by
  unfold dMt at w
  split at w
  · rename_i k ds0 e
    obtain ⟨a, os, m0, ow⟩ := s.ownAt e
    obtain ⟨vs0, ea, _, _⟩ := own_lst ow
    refine ⟨a, os.2, tyV_lst ea, qx Y σ H M ρ _ hl s (Wi.seq w fun xs ρ1 vs H1 M1 s1 st1 r1 w1 => ?_)⟩
    split at w1
    · rename_i k1 ds e1
      obtain ⟨b, os1, m1, ow1⟩ := s1.ownAt e1
      have eb : V.ref a = V.ref b := Option.some.inj (Option.some.inj (os.2.symm.trans os1.2))
      cases eb
      obtain ⟨ws, ea1, hz1, ra1⟩ := own_lst ow1
      cases e2 : (immAll xs).bind (m ds) with
      | none => rw [e2] at w1; exact w1.elim
      | some p =>
        obtain ⟨z, ds'⟩ := p
        rw [e2] at w1
        obtain ⟨as, e3, e4⟩ := bind_some e2
        refine hm H1 M1 a ws vs ds as z ds' Q ea1 hz1 ra1 (r1.imm e3) e4 fun v us hz rus rv => ?_
        have st : Stp H1 M1 (upd H1 a (.lst us)) M1 := ⟨fun b u n _ q => by
          have nb : b ≠ a := fun z => n (z ▸ m1)
          rcases q with q | ⟨x, q⟩
          · exact .inl (by rw [upd_ne nb]; exact q)
          · exact .inr ⟨x, by rw [upd_ne nb]; exact q⟩, fun b o n _ q => by
            have nb : b ≠ a := fun z => n (z ▸ m1)
            rw [upd_ne nb]; exact q, fun _ h => .inl h, upd_al⟩
        obtain ⟨s2, st2⟩ := s1.write (o := .lst us) (k := .lst) (d := .list ds') os1 ⟨us, ds', rfl, upd_same, hz, rus.step st _ _⟩
        exact w1 v _ M1 s2 st2 (rv.step st2 _ _)
    · exact w1.elim
  · exact w.elim
theorem de_mt {i : Nat} {x : Str} {name : Str} {id : String} {r : V → List V → Hp → VK → Prop} {m : List D → List D → Option (D × List D)} {px apos cpos : Pos} (slot : Slot "list" name id) (hty : typeOf (.builtin id) = pure (.type "method_descriptor")) (hm : MtR X id r) (hd : MtD X r m) (hN : X.N[i]? = some x) (hv : Vis X.env.scope x) (ha : DA X C (e :: es) fr)
    (hx : (x == ("__debug__" : Str)) = false := by decide) (hcd : (x == ("__classdict__" : Str)) = false := by decide)
    (hbase : attributeBase (.Name x px) name X.env (eval (.Name x px) X.env) = eval (.Name x px) X.env := by rfl)
    (hfew : ((backTo cpos (starEach (e :: es) X.env)).all (fun x => !x.1) && (backToKw cpos (keywordEach [] X.env)).all (fun x => x.1.isSome)
      && decide ((e :: es).length + ([] : List Keyword).length + (if ([] : List Keyword).isEmpty then 0 else 1) < 30)) = true := by rfl)
    (hline : (apos.endLine == cpos.line) = true := by rfl) (hs : starEach (e :: es) X.env = (false, eval e X.env) :: starEach es X.env := by rfl) (hplain : (backTo cpos (starEach es X.env)).any (·.1) = false := by rfl) :
    DE X C (.Call (.Attribute (.Name x px) name apos) (e :: es) [] cpos) (dMt i m fr) := by
  obtain ⟨t, pt, qt⟩ := ha.ex
  refine ⟨_, pe_bm PySem.F.plainAttrs_list slot hty hm (pe_var hN hv hx hcd) pt hbase hfew hline hs hplain, fun Y σ H M ρ Q hl s w => ?_⟩
  obtain ⟨a, e1, e2, e3⟩ := mt_core hd qt hl s w
  exact ⟨_, e1, e2, e3⟩
theorem de_mt0 {i : Nat} {x : Str} {name : Str} {id : String} {r : V → List V → Hp → VK → Prop} {m : List D → List D → Option (D × List D)} {px apos cpos : Pos} (slot : Slot "list" name id) (hty : typeOf (.builtin id) = pure (.type "method_descriptor")) (hm : MtR X id r) (hd : MtD X r m) (hN : X.N[i]? = some x) (hv : Vis X.env.scope x)
    (hx : (x == ("__debug__" : Str)) = false := by decide) (hcd : (x == ("__classdict__" : Str)) = false := by decide)
    (hbase : attributeBase (.Name x px) name X.env (eval (.Name x px) X.env) = eval (.Name x px) X.env := by rfl) (hline : (apos.endLine == cpos.line) = true := by rfl) :
    DE X C (.Call (.Attribute (.Name x px) name apos) [] [] cpos) (dMt i m dNil) := by
  obtain ⟨t, pt, qt⟩ := (da_nil (X := X) (C := C)).ex
  refine ⟨_, pe_bm0 PySem.F.plainAttrs_list slot hty hm (pe_var hN hv hx hcd) hbase hline, fun Y σ H M ρ Q hl s w => ?_⟩
  have qt' : ∀ (Y : Dy) (σ : L2.St) (H : Hp) (M : Addr → Prop) (ρ : Env) (Q : List V → Hp → Prop), LsOk C Y → SR (gs X) Y σ H M ρ → Wi (gs X) C Y σ H M (RAs (gs X) σ) (dNil ρ) Q → tNil σ H Q := fun Y σ H M ρ Q hl s w => w [] H M s .refl .nil
  obtain ⟨a, e1, e2, e3⟩ := mt_core hd qt' hl s w
  exact ⟨_, e1, e2, e3⟩
def mAppend : List D → List D → Option (D × List D) := fun ds as => match as with
  | [d] => if ds.length < 16777216 then some (.none, ds ++ [d]) else none
  | _ => none
theorem md_append : MtD X rAppend mAppend := by
  intro H M a vs args ds as z ds' Q ea hz ra rs hm q
  unfold mAppend at hm
  split at hm
  · split at hm
    · rename_i d hlt
      cases hm
      cases rs with
      | cons q1 r2 =>
        cases r2
        have hl : vs.length < sizeLine := by rw [ra.length, sizeLine_eq]; exact hlt
        refine ⟨a, vs, _, rfl, rfl, ea, hl, q _ _ ?_ (ra.append (.cons q1 .nil)) .non⟩
        rw [List.length_append]
        exact hl
    · cases hm
  · cases hm
def mPop : List D → List D → Option (D × List D) := fun ds as => match as with
  | [] => ds.getLast?.map fun d => (d, ds.dropLast)
  | _ => none
theorem md_pop : MtD X rPop mPop := by
  intro H M a vs args ds as z ds' Q ea hz ra rs hm q
  unfold mPop at hm
  split at hm
  · cases rs
    obtain ⟨d, e1, e2⟩ := Option.map_eq_some_iff.mp hm
    cases e2
    rw [List.getLast?_eq_getElem?, ← ra.length] at e1
    obtain ⟨v, e3, r⟩ := ra.get e1
    refine ⟨a, vs, v, rfl, rfl, ea, e3, q v _ ?_ ra.dropLast r⟩
    rw [List.length_dropLast]
    omega
  · cases hm
/-! x[i] = v -/
def putD : Kd → D → D → D → Option D
  | .lst, .list ds, .int i, v => (ixN ds.length i).map fun j => .list (ds.set j v)
  | .dK, .dict kvs, .int i, v => if kvs.length < 16777216 then some (.dict (kput kvs (.int i) (.num i) v)) else none
  | .dK, .dict kvs, .str x, v => if kvs.length < 16777216 then some (.dict (kput kvs (.str x) (.text x) v)) else none
  | .dN, .dict kvs, .tuple ks, v => (keyOf (.tuple ks)).bind fun k => if k.depth ≤ 8 ∧ kvs.length < 16777216 then some (.dict (kput kvs (.tuple ks) k v)) else none
  | _, _, _, _ => none
def rSetDK : V → V → V → Hp → (Hp → Prop) → Prop := fun o i v H Q => ∃ a kvs k, o = .ref a ∧ i = kV k ∧ H a = some (.dK kvs) ∧ kvs.length < sizeLine ∧ Q (upd H a (.dK (putK kvs k v)))
theorem set_dK (hu : X.A.units + 65 < cLine) : PSet X rSetDK := by
  intro pins s σ H o i v ov iv u Q I ro ri rv h
  obtain ⟨a, kvs, k, rfl, rfl, ea, hz, q⟩ := h
  obtain rfl : ov = Value.ref a := ro
  exact d_setItem (by omega) I (.k ea hz) ri rv fun s' I' => ⟨_, I', q⟩
/-- the entries behind a store hold a value for v -/
def rSetDN (X : Cx) : V → V → V → Hp → (Hp → Prop) → Prop := fun o i v H Q => ∃ a xs M ds b kd k, o = .ref a ∧ i = .ref b ∧ H a = some (HN X.prog X.w a xs) ∧ RpN (gs X) H M xs ds ∧ Rp (gs X) H M (.ref b) kd ∧ keyOf kd = some k ∧ k.depth ≤ 8 ∧ xs.length < sizeLine ∧
  ∀ u, RelV v u → Q (upd H a (HN X.prog X.w a (storedH xs k b u)))
theorem storedH_len (xs : List (NestedKey × Addr × Value)) (k : NestedKey) (b : Addr) (u : Value) : (storedH xs k b u).length ≤ xs.length + 1 := by
  unfold storedH
  split
  · rw [List.length_map]; omega
  · rw [List.length_append]; exact Nat.le_refl _
theorem hn_new {P : Program} {w : World} {H' : Hp} {h' : Heap} {a : Addr} {xs : List (NestedKey × Addr × Value)} (dd : h'.DictOfH (nestedKind P w) a xs) (hd : (a == sysModules) = false) (hz : xs.length ≤ sizeLine) : ObjOk P w H' h' a (HN P w a xs) := by
  obtain ⟨o, es, ep, h1, h2, h3, h4, h5, h6⟩ := dd
  refine ⟨⟨o, es, ep, h1, h2, h3, h4, h6, hd, hz⟩, ⟨o, h1⟩, fun h1' h2' p k => ?_⟩
  obtain ⟨o', es', ep', q1, q2⟩ := p
  exact ⟨o', es', ep', k o' q1, q2⟩
theorem set_dN (hu : X.A.units + 65 < cLine) : PSet X (rSetDN X) := by
  intro pins s σ H o i v ov iv u Q I ro ri rv h
  obtain ⟨a, xs, M, ds, b, kd, k, rfl, rfl, ea, rn, hk, ek, h8, hz, q⟩ := h
  obtain rfl : ov = Value.ref a := ro
  obtain rfl : iv = Value.ref b := ri
  obtain ⟨dd, hd, hz2⟩ := dictN I (.inl ea) rn
  refine wpAny_setItem_heap (hsz := hz2) (room8 (by omega)) ⟨key_is I _ _ _ _ hk rfl ek, h8⟩ dd fun h' dd' hs => ?_
  obtain ⟨o', es, ep, hq, _⟩ := id dd'
  exact ⟨_, d_write I (by rw [ea]; exact True.intro) hs ⟨o', hq⟩ (hn_new dd' hd (by have := storedH_len xs k b u; omega)), q u rv⟩
theorem PSet.or {r r' : TSet} (h : PSet X r) (h' : PSet X r') : PSet X (fun o i v H Q => r o i v H Q ∨ r' o i v H Q) := by
  intro pins s σ H o i v ov iv u Q I ro ri rv q
  rcases q with q | q
  · exact h pins s σ H o i v ov iv u Q I ro ri rv q
  · exact h' pins s σ H o i v ov iv u Q I ro ri rv q
def rPut (X : Cx) : TSet := fun o i v H Q => rSetL o i v H Q ∨ rSetDK o i v H Q ∨ rSetDN X o i v H Q
theorem set_any (hu : X.A.units + 65 < cLine) : PSet X (rPut X) := PSet.or set_list (PSet.or (set_dK hu) (set_dN hu))
def dPut (i : Nat) (fv fk : Env → Rs D) : Env → Rt := fun ρ => (fv ρ).to fun d ρ1 => match ρ1[i]? with
  | some (some (.own _ _)) => (fk ρ1).to fun kd ρ2 => match ρ2[i]? with
    | some (some (.own k c)) => match putD k c kd d with
      | some c' => .nx (ρ2.set i (some (.own k c')))
      | none => .bad
    | _ => .bad
  | _ => .bad
theorem d1_put {i : Nat} {x : Str} {px ps : Pos} {k v : Expr} {fv fk : Env → Rs D} (hu : X.A.units + 65 < cLine) (hN : X.N[i]? = some x) (hvs : Vis X.env.scope x) (hv : DE X C v fv) (hk : DE X C k fk)
    (hx : (x == ("__debug__" : Str)) = false := by decide) (hcd : (x == ("__classdict__" : Str)) = false := by decide)
    (ha : ∀ w, assign (.Subscript (.Name x px) k ps) X.env w = (do
      let ov ← holding [w] (eval (.Name x px) X.env)
      let iv ← holding [w, ov] (eval k X.env)
      standAt ps
      holding [w, ov, iv] (setItem ov iv w)
      release [w, ov, iv] []) := by intro _; rfl)
    (hs : swapsWithSole [.Subscript (.Name x px) k ps] v pos.line X.env = pure false := by rfl) (hw : swappedStores [.Subscript (.Name x px) k ps] v X.env = pure none := by rfl)
    (h1 : (assignEach [.Subscript (.Name x px) k ps] X.env).map (·.2) = [assign (.Subscript (.Name x px) k ps) X.env] := by rfl) : D1 X C (.Assign [.Subscript (.Name x px) k ps] v pos) (dPut i fv fk) := by
  obtain ⟨t, pt, qt⟩ := hv.ex
  obtain ⟨u, pu, qu⟩ := hk.ex
  refine ⟨_, ps_asg pt (pg_sub (pe_var hN hvs hx hcd) pu (set_any hu) ha) hs hw h1, fun Y σ H M ρ Dn hl s w => ?_⟩
  refine qt Y σ H M ρ _ hl s (Wi.to w fun d ρ1 v1 H1 M1 s1 st1 r1 w1 => ?_)
  split at w1
  · rename_i k0 c0 e0
    obtain ⟨a, os, m0, ow⟩ := s1.ownAt e0
    refine ⟨_, os.2, qu Y σ H1 M1 ρ1 _ hl s1 (Wi.to w1 fun kd ρ2 v2 H2 M2 s2 st2 r2 w2 => ?_)⟩
    split at w2
    · rename_i kk c e1
      obtain ⟨b, os1, m1, ow1⟩ := s2.ownAt e1
      have eb : V.ref a = V.ref b := Option.some.inj (Option.some.inj (os.2.symm.trans os1.2))
      cases eb
      cases e2 : putD kk c kd d with
      | none => rw [e2] at w2; exact w2.elim
      | some c' =>
        rw [e2] at w2
        have r1' := Rp.step st2 _ _ r1
        have stp : ∀ o, Stp H2 M2 (upd H2 a o) M2 := fun o => ⟨fun b u n _ q => by
          have nb : b ≠ a := fun z => n (z ▸ m1)
          rcases q with q | ⟨x, q⟩
          · exact .inl (by rw [upd_ne nb]; exact q)
          · exact .inr ⟨x, by rw [upd_ne nb]; exact q⟩, fun b o n _ q => by
            have nb : b ≠ a := fun z => n (z ▸ m1)
            rw [upd_ne nb]; exact q, fun _ h => .inl h, upd_al⟩
        have fin : ∀ o, OwnAt (gs X) (upd H2 a o) M2 kk a c' → Dn.nx σ (upd H2 a o) := fun o ow' => by
          obtain ⟨s3, st3⟩ := s2.write (o := o) os1 ow'
          exact w2 σ _ M2 s3 st3
        unfold putD at e2
        split at e2
        · rename_i ds i' v'
          obtain ⟨j, e3, rfl⟩ := Option.map_eq_some_iff.mp e2
          obtain ⟨vs, ds', ec, ea, hz, ra⟩ := ow1
          cases ec
          cases r2
          refine .inl ⟨a, vs, _, j, rfl, rfl, ea, by rw [ra.length]; exact e3, fin _ ⟨vs.set j v1, _, rfl, upd_same, by rw [List.length_set]; exact hz, (ra.set j r1').step (stp _) _ _⟩⟩
        · rename_i kvs i' v'
          split at e2
          · rename_i hlt
            cases e2
            obtain ⟨vs, ds', ec, ea, hz, ra⟩ := ow1
            cases ec
            cases r2
            have hl2 : vs.length < sizeLine := by rw [ra.length, sizeLine_eq]; exact hlt
            refine .inr (.inl ⟨a, vs, .inl _, rfl, rfl, ea, hl2, fin _ ⟨_, _, rfl, upd_same, ?_, (ra.put (.inl _) trivial r1').step (stp _) _ _⟩⟩)
            exact Nat.le_trans (length_putK vs _ v1) hl2
          · cases e2
        · rename_i kvs i' v'
          split at e2
          · rename_i hlt
            cases e2
            obtain ⟨vs, ds', ec, ea, hz, ra⟩ := ow1
            cases ec
            cases r2 with
            | str _ kz =>
            have hl2 : vs.length < sizeLine := by rw [ra.length, sizeLine_eq]; exact hlt
            refine .inr (.inl ⟨a, vs, .inr _, rfl, rfl, ea, hl2, fin _ ⟨_, _, rfl, upd_same, ?_, (ra.put (.inr _) kz r1').step (stp _) _ _⟩⟩)
            exact Nat.le_trans (length_putK vs _ v1) hl2
          · cases e2
        · rename_i kvs ks v'
          obtain ⟨key, ek, e3⟩ := bind_some e2
          split at e3
          · rename_i hc
            cases e3
            obtain ⟨xs, ds', ec, ea, ra⟩ := ow1
            cases ec
            obtain ⟨b, ws, rfl, sb, _, rb⟩ := r2.seqT
            refine .inr (.inr ⟨a, xs, M2, _, b, _, key, rfl, rfl, ea, ra, r2, ek, hc.1, by rw [ra.length, sizeLine_eq]; exact hc.2, fun u ru => ?_⟩)
            exact fin _ ⟨_, _, rfl, upd_same, (ra.put r2 ek hc.1 ru r1').step (stp _) _ _⟩
          · cases e3
        · cases e2
    · exact w2.elim
  · exact w1.elim
/-! {} -/
def dNew : Env → Rs D := fun ρ => .ok (.dict []) ρ
theorem df_newK : DF X C .dK (.Dict [] [] pos) dNew := by
  refine ⟨_, pe_dnewK, fun Y σ H M ρ Q hl s w => fun p hp => ?_⟩
  exact w _ _ (Mp M p) (s.more hp) (.more hp) ⟨p, rfl, .inr rfl, s.h0none hp, fun i o => (s.ownM o).2 hp, [], [], rfl, upd_same, Nat.zero_le _, .nil⟩
theorem pe_dnewN : PE X (.Dict [] [] pos) (fun _ H Q => ∀ p, H p = none → Q (.ref p) (upd H p (HN X.prog X.w p []))) := ⟨fun pins s σ H Q I h => by
  have hf : H s.heap.objs.size = none := I.hok.fresh (Nat.le_refl _)
  have hd : (s.heap.objs.size == sysModules) = false := by
    have hb := Inv.big I
    have : s.heap.objs.size ≠ sysModules := Nat.ne_of_gt hb
    simpa using this
  exact wpAny_Dict_empty ⟨.ref s.heap.objs.size, _, I.laid (t' := s.toks) (fun b u e => Heap.get?_push_of_some _ e) (Nat.le_refl _) (hn_new (Heap.DictOfH.new s.heap) hd (Nat.zero_le _)), rfl, h _ hf⟩⟩
theorem df_newN : DF X C .dN (.Dict [] [] pos) dNew := by
  refine ⟨_, pe_dnewN, fun Y σ H M ρ Q hl s w => fun p hp => ?_⟩
  exact w _ _ (Mp M p) (s.more hp) (.more hp) ⟨p, rfl, .inr rfl, s.h0none hp, fun i o => (s.ownM o).2 hp, [], [], rfl, upd_same, .nil⟩
end
end DL
end

section
set_option Elab.async false
set_option autoImplicit false
set_option linter.all false
set_option maxRecDepth 100000
set_option maxHeartbeats 1000000
/-! DL8: loops and comprehensions by data. -/
namespace DL
open PySem PySem.Spec PyProof.Rows L2

/-- what an iterator gives, in whatever comes -/
def IterOk (K : Gs) (J : It) (H1 : Hp) (M1 : Addr → Prop) (ds : List D) : Prop :=
  ∀ (H : Hp) (M : Addr → Prop), Stp H1 M1 H M → (∀ a, M a → H a ≠ none) → ∀ i : Nat, (ds.length ≤ i → J.stop i H) ∧ ∀ d, ds[i]? = some d → J.go i H ∧ ∀ x H', J.yld i H x H' → Same H H' ∧ Rp K H' M x d
abbrev RI (K : Gs) : Env → Hp → (Addr → Prop) → It → List D → Prop := fun _ H M J ds => IterOk K J H M ds
structure DI (X : Cx) (C : Cs) (tg iter : Expr) (f : Env → Rs (List D)) : Prop where
  ex : ∃ t, PI X tg iter t ∧ ∀ (Y : Dy) (σ : L2.St) (H : Hp) (M : Addr → Prop) (ρ : Env) (R : It → Hp → Prop), LsOk C Y → SR (gs X) Y σ H M ρ → Wi (gs X) C Y σ H M (RI (gs X)) (f ρ) R → t σ H R
def forL (g : D → Env → Option Env) (body : Env → Rt) (kl : List Nat) : List D → Env → Rt
  | [], ρ => .nx ρ
  | d :: ds, ρ => match g d ρ with
    | some ρ1 => match body ρ1 with
      | .nx ρ2 => forL g body kl ds (kill kl ρ2)
      | .ct ρ2 => forL g body kl ds (kill kl ρ2)
      | .bk ρ2 => .nx (kill kl ρ2)
      | .rt d ρ2 => .rt d ρ2
      | .rtf k d ρ2 => .rtf k d ρ2
      | .exn c ρ2 => .exn c ρ2
      | .bad => .bad
    | none => .bad
def dFor (fi : Env → Rs (List D)) (g : D → Env → Option Env) (body : Env → Rt) (kl : List Nat) : Env → Rt := fun ρ => (fi ρ).to fun ds ρ1 => forL g body kl ds (kill kl ρ1)
def whileL (t : Env → Rs Bool) (body : Env → Rt) (kl : List Nat) : Nat → Env → Rt
  | 0, _ => .bad
  | n + 1, ρ => (t ρ).to fun b ρ1 => if b = true then match body ρ1 with
      | .nx ρ2 => whileL t body kl n (kill kl ρ2)
      | .ct ρ2 => whileL t body kl n (kill kl ρ2)
      | .bk ρ2 => .nx (kill kl ρ2)
      | .rt d ρ2 => .rt d ρ2
      | .rtf k d ρ2 => .rtf k d ρ2
      | .exn c ρ2 => .exn c ρ2
      | .bad => .bad
    else .nx ρ1
def dWhile (N : Nat) (t : Env → Rs Bool) (body : Env → Rt) (kl : List Nat) : Env → Rt := fun ρ => whileL t body kl N (kill kl ρ)
section
variable {X : Cx} {C : Cs} {st : Stmt} {sts : List Stmt} {e a b c tg iter : Expr} {es : List Expr} {fa fb : Env → Rs Arg} {f f' : Env → Rs D} {ta : Env → Rs Bool} {fr : Env → Rs (List Arg)} {g : D → Env → Option Env} {body : Env → Rt} {fi : Env → Rs (List D)} {pos : Pos}
theorem d1_for {ix : List Nat} (kl : List Nat) (hkl : (kl.all fun i => !C.LS.contains i) = true) (hp : PassesOwn (model X.prog X.w) X.A X.env X.xe) (hc : X.calm = true) (hi : DI X C tg iter fi) (hg : DG X C tg ix g) (hb : DS X C sts body)
    (hs : ∀ x, foldedSetIterable iter X.env x = pure x := by intro _; rfl) : D1 X C (.For tg iter sts [] pos) (dFor fi g body kl) := by
  obtain ⟨ti, pi, qi⟩ := hi.ex
  obtain ⟨tt, pt, qt⟩ := hg.ex
  obtain ⟨tb, pb, qb⟩ := hb.ex
  refine ⟨_, ps_for hp hc pi pt pb hs, fun Y σ H M ρ Dn hl s w => ?_⟩
  refine qi Y σ H M ρ _ hl s (Wi.to w fun ds ρ1 J H1 M1 s1 st1 ok w1 => ?_)
  refine ⟨fun i m σ H => i ≤ ds.length ∧ m = ds.length - i ∧ ∃ M ρ, SR (gs X) Y σ H M ρ ∧ Stp H1 M1 H M ∧ WS (gs X) C Y H M (forL g body kl (ds.drop i) ρ) Dn, ⟨ds.length, Nat.zero_le _, rfl, M1, _, srKills hl kl hkl s1, .refl, w1⟩, ?_⟩
  rintro i m σ2 H2 ⟨hi, rfl, M2, ρ2, s2, st2, w2⟩
  obtain ⟨stop, go⟩ := ok H2 M2 st2 s2.al i
  by_cases hlt : i < ds.length
  · have ed : ds[i]? = some ds[i] := List.getElem?_eq_getElem hlt
    obtain ⟨hgo, hy⟩ := go _ ed
    refine .inr ⟨hgo, fun σ H => ∃ M ρ, SR (gs X) Y σ H M ρ ∧ Stp H1 M1 H M ∧ WS (gs X) C Y H M (forL g body kl (ds.drop (i + 1)) ρ) Dn, fun σ' H' n => ⟨ds.length - (i + 1), by omega, by omega, rfl, n⟩, fun x H3 hx => ?_⟩
    obtain ⟨gr, rx⟩ := hy x H3 hx
    have s3 := s2.grow gr
    have st3 : Stp H2 M2 H3 M2 := .grow gr
    rw [List.drop_eq_getElem_cons hlt] at w2
    unfold forL at w2
    cases eg : g ds[i] ρ2 with
    | none => rw [eg] at w2; exact w2.elim
    | some ρ3 =>
      rw [eg] at w2
      refine qt Y σ2 H3 M2 ρ2 ρ3 x _ _ hl s3 rx eg fun σ4 s4 _ => ?_
      refine qb Y σ4 H3 M2 ρ3 _ hl s4 ?_
      have w3 := WS.step w2 st3
      cases eb : body ρ3 with
      | nx ρ5 =>
        simp only [eb] at w3
        exact fun σ' H' M' s' q => ⟨M', _, srKills hl kl hkl s', (st2.trans st3).trans q, WS.step w3 q⟩
      | ct ρ5 =>
        simp only [eb] at w3
        exact fun σ' H' M' s' q => ⟨M', _, srKills hl kl hkl s', (st2.trans st3).trans q, WS.step w3 q⟩
      | bk ρ5 =>
        simp only [eb] at w3
        exact fun σ' H' M' s' q => w3 σ' H' M' (srKills hl kl hkl s') q
      | rt d ρ5 => simp only [eb] at w3; exact w3
      | rtf k d ρ5 => simp only [eb] at w3; exact w3
      | exn c ρ5 => simp only [eb] at w3; exact w3
      | bad => simp only [eb] at w3; exact w3
  · have e : i = ds.length := by omega
    subst e
    rw [List.drop_length] at w2
    exact .inl ⟨stop (Nat.le_refl _), w2 σ2 H2 M2 s2 .refl⟩
theorem d1_while (N : Nat) (kl : List Nat) (hkl : (kl.all fun i => !C.LS.contains i) = true) (hp : PassesOwn (model X.prog X.w) X.A X.env X.xe) (hc : DT X C c ta) (hb : DS X C sts body) : D1 X C (.While c sts [] pos) (dWhile N ta body kl) := by
  obtain ⟨tt, pt, qt⟩ := hc.ex
  obtain ⟨tb, pb, qb⟩ := hb.ex
  refine ⟨_, ps_while hp pt pb, fun Y σ H M ρ Dn hl s w => ?_⟩
  refine ⟨fun m σ H => ∃ M ρ, SR (gs X) Y σ H M ρ ∧ WS (gs X) C Y H M (whileL ta body kl m ρ) Dn, ⟨N, M, _, srKills hl kl hkl s, w⟩, ?_⟩
  rintro m σ2 H2 ⟨M2, ρ2, s2, w2⟩
  cases m with
  | zero => exact w2.elim
  | succ m =>
    unfold whileL at w2
    refine qt Y σ2 H2 M2 ρ2 _ hl s2 (Wi.to w2 fun k ρ3 v H3 M3 s3 st3 r3 w3 => ?_)
    have e : v = k := r3
    subst e
    cases v with
    | false =>
      rw [if_neg Bool.false_ne_true] at w3 ⊢
      exact w3 σ2 H3 M3 s3 .refl
    | true =>
      rw [if_pos rfl] at w3 ⊢
      refine ⟨fun σ H => ∃ M ρ, SR (gs X) Y σ H M ρ ∧ WS (gs X) C Y H M (whileL ta body kl m ρ) Dn, fun σ' H' n => ⟨m, Nat.lt_succ_self m, n⟩, ?_⟩
      refine qb Y σ2 H3 M3 ρ3 _ hl s3 ?_
      cases eb : body ρ3 with
      | nx ρ5 =>
        simp only [eb] at w3
        exact fun σ' H' M' s' q => ⟨M', _, srKills hl kl hkl s', WS.step w3 q⟩
      | ct ρ5 =>
        simp only [eb] at w3
        exact fun σ' H' M' s' q => ⟨M', _, srKills hl kl hkl s', WS.step w3 q⟩
      | bk ρ5 =>
        simp only [eb] at w3
        exact fun σ' H' M' s' q => w3 σ' H' M' (srKills hl kl hkl s') q
      | rt d ρ5 => simp only [eb] at w3; exact w3
      | rtf k d ρ5 => simp only [eb] at w3; exact w3
      | exn c ρ5 => simp only [eb] at w3; exact w3
      | bad => simp only [eb] at w3; exact w3
/-! ### what is walked -/
theorem PI.or {wi wi' : TI} (h : PI X tg iter wi) (h' : PI X tg iter wi') : PI X tg iter (fun σ H R => wi σ H R ∨ wi' σ H R) := ⟨fun pins s σ H R I q => by
  rcases q with q | q
  · exact h.run pins s σ H R I q
  · exact h'.run pins s σ H R I q⟩
/-- the items of a list, a tuple, the signs of a text -/
def itemsD : D → Option (List D)
  | .list ds => some ds
  | .tuple ds => some ds
  | .str x => some (x.cps.toList.map fun c => .str ⟨#[c]⟩)
  | _ => none
def dItems (f : Env → Rs D) : Env → Rs (List D) := fun ρ => (f ρ).bind fun d ρ1 => opt (itemsD d) ρ1
theorem Rp.lstK {K : Gs} {H : Hp} {M : Addr → Prop} {v : V} {ds : List D} (h : Rp K H M v (.list ds)) : ∃ a xs, v = .ref a ∧ SqL K.K H a xs ∧ xs.length ≤ sizeLine ∧ RpA K H M xs ds ∧ ∀ H' M', Stp H M H' M' → SqL K.K H' a xs := by
  cases h with
  | lst r n z q => exact ⟨_, _, rfl, .inl r, z, q, fun H' M' st => .inl (st.kp _ (.lst _) n (fun z q => by cases q) r)⟩
  | lstC c q => exact ⟨_, _, rfl, c.sq, c.len, q, fun H' M' st => c.sq⟩
theorem iter_list {H : Hp} {M : Addr → Prop} {a : Addr} {xs : List V} {ds : List D} (ea : ∀ H' M', Stp H M H' M' → SqL X.K H' a xs) (r : RpA (gs X) H M xs ds) : IterOk (gs X) (Itl X.K a) H M ds := fun H' M' st al i => by
  have ea' := ea _ _ st
  have r' := r.step st _ _
  refine ⟨fun hi => ⟨xs, ea', by rw [r.length]; exact hi⟩, fun d ed => ?_⟩
  obtain ⟨v, e1, q⟩ := r'.get ed
  refine ⟨⟨xs, v, ea', e1⟩, fun x H2 y => ?_⟩
  obtain ⟨rfl, y⟩ := y
  have e2 := y xs ea'
  rw [e1] at e2
  cases e2
  exact ⟨Same.refl _, q⟩
theorem iter_tup {H : Hp} {M : Addr → Prop} {a : Addr} {xs : List V} {ds : List D} (ea : ∀ H' M', Stp H M H' M' → SqT X.K H' a xs) (r : RpA (gs X) H M xs ds) : IterOk (gs X) (Itt X.K a) H M ds := fun H' M' st al i => by
  have ea' := ea _ _ st
  have r' := r.step st _ _
  refine ⟨fun hi => ⟨xs, ea', by rw [r.length]; exact hi⟩, fun d ed => ?_⟩
  obtain ⟨v, e1, q⟩ := r'.get ed
  refine ⟨⟨xs, v, ea', e1⟩, fun x H2 y => ?_⟩
  obtain ⟨rfl, y⟩ := y
  have e2 := y xs ea'
  rw [e1] at e2
  cases e2
  exact ⟨Same.refl _, q⟩
theorem di_seq (h : DE X C e f) : DI X C tg e (dItems f) := by
  obtain ⟨t, pt, qt⟩ := h.ex
  refine ⟨_, PI.or (pi_list pt) (PI.or (pi_tup pt) (pi_str pt)), fun Y σ H M ρ R hl s w => ?_⟩
  cases ef : f ρ with
  | bad => exact (show False from by unfold dItems at w; rw [ef] at w; exact w).elim
  | exn c ρ1 =>
    refine .inl (qt Y σ H M ρ _ hl s ?_)
    rw [ef]
    unfold dItems at w
    rw [ef] at w
    exact w
  | ok d ρ1 =>
    have w' : Wi (gs X) C Y σ H M (RI (gs X)) (opt (itemsD d) ρ1) R := by
      unfold dItems at w
      rw [ef] at w
      exact w
    cases d with
    | list ds =>
      refine .inl (qt Y σ H M ρ _ hl s ?_)
      rw [ef]
      intro v H1 M1 s1 st1 r1
      obtain ⟨a, xs, rfl, ea, hz, ra, ka⟩ := r1.lstK
      exact ⟨_, rfl, ⟨_, ea⟩, w' _ H1 M1 s1 st1 (iter_list ka ra)⟩
    | tuple ds =>
      refine .inr (.inl (qt Y σ H M ρ _ hl s ?_))
      rw [ef]
      intro v H1 M1 s1 st1 r1
      cases r1 with
      | tup ea n z ra => exact ⟨_, rfl, ⟨_, .inl (.inl ea)⟩, w' _ H1 M1 s1 st1 (iter_tup (fun H' M' st => .inl (.inl (st.kl _ (.tup _) n True.intro ea))) ra)⟩
      | tupC ea ra => exact ⟨_, rfl, ⟨_, ea.sq⟩, w' _ H1 M1 s1 st1 (iter_tup (fun H' M' st => ea.sq) ra)⟩
    | str x =>
      refine .inr (.inr (qt Y σ H M ρ _ hl s ?_))
      rw [ef]
      intro v H1 M1 s1 st1 r1
      cases r1 with
      | str _ z =>
        refine ⟨x, rfl, w' _ H1 M1 s1 st1 fun H' M' st al i => ⟨fun hi => ?_, fun d ed => ?_⟩⟩
        · show x.cps.size ≤ i
          simpa using hi
        · rw [List.getElem?_map] at ed
          obtain ⟨c, e1, rfl⟩ := Option.map_eq_some_iff.mp ed
          have hi : i < x.cps.size := by simpa using (List.getElem?_eq_some_iff.mp e1).1
          refine ⟨hi, fun y H2 hy => ?_⟩
          obtain ⟨rfl, c', e2, rfl⟩ := hy
          have e3 : x.cps[i]? = some c := by rw [← Array.getElem?_toList]; exact e1
          rw [e3] at e2
          cases e2
          exact ⟨Same.refl _, .str _ (by show 1 ≤ sizeLine; decide)⟩
    | _ => exact w'.elim
/-- range -/
def rangeD (lo : Int) (n : Nat) : List D := (List.range n).map fun (i : Nat) => .int (lo + (i : Int))
def gRange1 : List D → Option (List D)
  | [.int j] => if -(2 ^ 62) ≤ j ∧ j < 2 ^ 62 then some (rangeD 0 j.toNat) else none
  | _ => none
def gRange2 : List D → Option (List D)
  | [.int i, .int j] => if -(2 ^ 62) ≤ i ∧ i < 2 ^ 62 ∧ -(2 ^ 62) ≤ j ∧ j < 2 ^ 62 then some (rangeD i (j - i).toNat) else none
  | _ => none
def dRange1 (fr : Env → Rs (List Arg)) : Env → Rs (List D) := fun ρ => (fr ρ).bind fun xs ρ1 => opt ((getAll ρ1 xs).bind gRange1) ρ1
def dRange2 (fr : Env → Rs (List Arg)) : Env → Rs (List D) := fun ρ => (fr ρ).bind fun xs ρ1 => opt ((getAll ρ1 xs).bind gRange2) ρ1
theorem iter_range {K : Gs} {H : Hp} {M : Addr → Prop} (lo : Int) (n : Nat) : IterOk K (Itr lo n) H M (rangeD lo n) := fun H' M' st al i => by
  refine ⟨fun hi => ?_, fun d ed => ?_⟩
  · show n ≤ i
    simpa [rangeD] using hi
  · unfold rangeD at ed
    rw [List.getElem?_map] at ed
    obtain ⟨j, e1, rfl⟩ := Option.map_eq_some_iff.mp ed
    obtain ⟨hi, e2⟩ := List.getElem?_eq_some_iff.mp e1
    rw [List.getElem_range] at e2
    subst e2
    refine ⟨(show i < n by simpa using hi), fun x H2 y => ?_⟩
    obtain ⟨rfl, rfl⟩ := y
    exact ⟨Same.refl _, .int _⟩
theorem di_range1 {p : Pos} (hg : Gl X "range") (hm : X.mg "range" = none) (ha : DA X C [a] fr) (hs : starEach [a] X.env = [(false, eval a X.env)] := by rfl) : DI X C tg (.Call (.Name "range" p) [a] [] pos) (dRange1 fr) := by
  obtain ⟨t, pt, qt⟩ := ha.ex
  refine ⟨_, pi_range1 hg hm pt hs, fun Y σ H M ρ R hl s w => ?_⟩
  refine qt Y σ H M ρ _ hl s (Wi.seq w fun xs ρ1 vs H1 M1 s1 st1 r1 w1 => ?_)
  cases ez : (getAll ρ1 xs).bind gRange1 with
  | none => rw [ez] at w1; exact w1.elim
  | some z =>
    rw [ez] at w1
    obtain ⟨ds, h1, h2⟩ := bind_some ez
    have rv := r1.rv s1 h1
    unfold gRange1 at h2
    split at h2
    · split at h2
      · rename_i hc
        cases h2
        obtain ⟨v, rfl, r⟩ := rv.one
        exact ⟨_, by rw [r.int], hc.1, hc.2, w1 _ H1 M1 s1 .refl (iter_range 0 _)⟩
      · cases h2
    · cases h2
theorem di_range2 {p : Pos} (hg : Gl X "range") (hm : X.mg "range" = none) (ha : DA X C [a, b] fr) (hs : starEach [a, b] X.env = [(false, eval a X.env), (false, eval b X.env)] := by rfl) (hs2 : starEach [b] X.env = [(false, eval b X.env)] := by rfl) :
    DI X C tg (.Call (.Name "range" p) [a, b] [] pos) (dRange2 fr) := by
  obtain ⟨t, pt, qt⟩ := ha.ex
  refine ⟨_, pi_range2 hg hm pt hs hs2, fun Y σ H M ρ R hl s w => ?_⟩
  refine qt Y σ H M ρ _ hl s (Wi.seq w fun xs ρ1 vs H1 M1 s1 st1 r1 w1 => ?_)
  cases ez : (getAll ρ1 xs).bind gRange2 with
  | none => rw [ez] at w1; exact w1.elim
  | some z =>
    rw [ez] at w1
    obtain ⟨ds, h1, h2⟩ := bind_some ez
    have rv := r1.rv s1 h1
    unfold gRange2 at h2
    split at h2
    · split at h2
      · rename_i hc
        cases h2
        obtain ⟨v, v2, rfl, r, r2⟩ := rv.two
        exact ⟨_, _, by rw [r.int, r2.int], hc, w1 _ H1 M1 s1 .refl (iter_range _ _)⟩
      · cases h2
    · cases h2

/-! ### comprehensions -/
def okO {α : Type} (r : Rs α) : Option (α × Env) := match r with
  | .ok a ρ => some (a, ρ)
  | _ => none
theorem okO_some {α : Type} {r : Rs α} {p : α × Env} (h : okO r = some p) : r = .ok p.1 p.2 := by
  cases r with
  | ok a ρ => cases h; rfl
  | exn c ρ => cases h
  | bad => cases h
def lcL (g : D → Env → Option Env) (tt : Env → Rs Bool) (fe : Env → Rs D) (vs : List Nat) : List D → List D → Env → Option (List D × Env)
  | [], acc, ρ => some (acc, ρ)
  | d :: ds, acc, ρ => (g d ρ).bind fun ρ1 => (okO (tt ρ1)).bind fun p => if p.1 = true then (okO (fe p.2)).bind fun q => lcL g tt fe vs ds (acc ++ [q.1]) (kill vs q.2) else lcL g tt fe vs ds acc (kill vs p.2)
/-- the outer values of the comprehension's own names -/
def back : List Nat → Env → Env → Env
  | [], _, ρ => ρ
  | i :: is, ρ0, ρ => match ρ0[i]? with
    | some (some (.val d)) => back is ρ0 (ρ.set i (some (.val d)))
    | _ => back is ρ0 ρ
def dLc (fi : Env → Rs (List D)) (g : D → Env → Option Env) (tt : Env → Rs Bool) (fe : Env → Rs D) (vs : List Nat) : Env → Rs D := fun ρ => (fi ρ).bind fun ds ρ1 => if ds.length ≤ 16777216 then match lcL g tt fe vs ds [] (kill vs ρ1) with
    | some (ys, ρ2) => .ok (.list ys) (back vs ρ1 (kill vs ρ2))
    | none => .bad
  else .bad
structure DTs (X : Cx) (C : Cs) (es : List Expr) (f : Env → Rs Bool) : Prop where
  ex : ∃ t, PTs X es t ∧ ∀ (Y : Dy) (σ : L2.St) (H : Hp) (M : Addr → Prop) (ρ : Env) (Q : Bool → Hp → Prop), LsOk C Y → SR (gs X) Y σ H M ρ → Wi (gs X) C Y σ H M RB (f ρ) Q → t σ H Q
def dYes : Env → Rs Bool := fun ρ => .ok true ρ
theorem dts_nil : DTs X C [] dYes := ⟨_, pts_nil, fun Y σ H M ρ Q hl s w => w true H M s .refl rfl⟩
theorem dts_one (h : DT X C c ta) : DTs X C [c] ta := by
  obtain ⟨t, pt, qt⟩ := h.ex
  exact ⟨_, pts_one pt, qt⟩
/-! the reading that does not lean on how it was made -/
def TEc (G : Gs) (C : Cs) (f : Env → Rs D) : TE := fun σ H Q => ∃ Y M ρ, LsOk C Y ∧ SR G Y σ H M ρ ∧ Wi G C Y σ H M (RD G) (f ρ) Q
def TTc (G : Gs) (C : Cs) (f : Env → Rs Bool) : TT := fun σ H Q => ∃ Y M ρ, LsOk C Y ∧ SR G Y σ H M ρ ∧ Wi G C Y σ H M RB (f ρ) Q
def TGc (G : Gs) (C : Cs) (ix : List Nat) (g : D → Env → Option Env) : TG := fun v σ H Q => ∃ Y M ρ ρ' d, LsOk C Y ∧ SR G Y σ H M ρ ∧ Rp G H M v d ∧ g d ρ = some ρ' ∧ ∀ σ', SR G Y σ' H M ρ' → Ch ix σ σ' → Q σ' H
theorem DE.can (h : DE X C e f) : PE X e (TEc (gs X) C f) := by
  obtain ⟨t, pt, qt⟩ := h.ex
  exact ⟨fun pins s σ H Q I ⟨Y, M, ρ, hl, sr, w⟩ => pt.run pins s σ H Q I (qt Y σ H M ρ Q hl sr w)⟩
theorem DTs.can (h : DTs X C es ta) : PTs X es (TTc (gs X) C ta) := by
  obtain ⟨t, pt, qt⟩ := h.ex
  exact ⟨fun pins s σ H Q I ⟨Y, M, ρ, hl, sr, w⟩ => pt.run pins s σ H Q I (qt Y σ H M ρ Q hl sr w)⟩
theorem DG.can {ix : List Nat} (h : DG X C tg ix g) : PG X tg (TGc (gs X) C ix g) := by
  obtain ⟨t, pt, qt⟩ := h.ex
  exact ⟨fun pins s σ H v u Q I r ⟨Y, M, ρ, ρ', d, hl, sr, rp, eg, w⟩ => pt.run pins s σ H v u Q I r (qt Y σ H M ρ ρ' v d Q hl sr rp eg w)⟩
end
/-! slots of a block -/
section
variable {K : Gs} {C : Cs} {Y : Dy} {σ σ' : L2.St} {H H' : Hp} {M M' : Addr → Prop} {ρ ρ' : Env}
theorem kill_len : ∀ (is : List Nat) (ρ : Env), (kill is ρ).length = ρ.length
  | [], _ => rfl
  | i :: is, ρ => by unfold kill; rw [kill_len is, List.length_set]
theorem kill_out : ∀ (is : List Nat) (ρ : Env) (j : Nat), j ∉ is → (kill is ρ)[j]? = ρ[j]?
  | [], _, _, _ => rfl
  | i :: is, ρ, j, h => by
    unfold kill
    rw [kill_out is _ j (fun z => h (List.mem_cons_of_mem _ z)), List.getElem?_set_ne (fun z => h (by simp [z]))]
theorem kill_in : ∀ (is : List Nat) (ρ : Env) (j : Nat), j ∈ is → (kill is ρ)[j]? = none ∨ (kill is ρ)[j]? = some none
  | [], _, _, h => nomatch h
  | i :: is, ρ, j, h => by
    unfold kill
    by_cases hj : j ∈ is
    · exact kill_in is _ j hj
    · have e : j = i := by
        rcases List.mem_cons.mp h with e | h
        · exact e
        · exact absurd h hj
      subst e
      rw [kill_out is _ j hj]
      by_cases hl : j < ρ.length
      · rw [List.getElem?_set_self hl]; exact .inr rfl
      · rw [List.getElem?_eq_none (by simpa using hl)]; exact .inl rfl
theorem kill_some {is : List Nat} {ρ : Env} {j : Nat} {c : Cell} (h : (kill is ρ)[j]? = some (some c)) : j ∉ is ∧ ρ[j]? = some (some c) := by
  by_cases hj : j ∈ is
  · rcases kill_in is ρ j hj with e | e <;> rw [e] at h <;> cases h
  · exact ⟨hj, by rw [← kill_out is ρ j hj]; exact h⟩
/-- other slots, the same but for those that are forgotten -/
theorem sr_reslot (s : SR K Y σ H M ρ) (hl : LsOk C Y) {vs : List Nat} (hv : (vs.all fun i => !C.LS.contains i) = true) (h : Ch vs σ σ') : SR K Y σ' H M (kill vs ρ) := by
  have ov : ∀ i a, OwnSl σ' (kill vs ρ) i a → OwnSl σ ρ i a := fun i a q => by
    obtain ⟨⟨k, d, e1⟩, e2⟩ := q
    obtain ⟨n, e3⟩ := kill_some e1
    exact ⟨⟨k, d, e3⟩, by rw [← h.out i n]; exact e2⟩
  have nl : ∀ p ∈ Y.ls, p.1 ∉ vs := fun p hp z => by
    have := List.all_eq_true.mp hv _ z
    exact hl.ne (by simpa using this) p hp rfl
  refine ⟨by rw [h.len, kill_len]; exact s.len, s.keep, s.tb, s.m0, s.w0, s.lw, s.wl, s.mle, s.st0, s.al, fun i c e => ?_, fun i j a q1 q2 => s.inj i j a (ov i a q1) (ov j a q2), fun i a q => s.own i a (ov i a q), fun p hp => ?_⟩
  · obtain ⟨n, e3⟩ := kill_some e
    obtain ⟨v, e4, q⟩ := s.slot i c e3
    exact ⟨v, by rw [h.out i n]; exact e4, q⟩
  · obtain ⟨⟨k, d, e1⟩, e2⟩ := s.lst p hp
    exact ⟨⟨k, d, by rw [kill_out vs ρ _ (nl p hp)]; exact e1⟩, by rw [h.out _ (nl p hp)]; exact e2⟩
theorem wipe_out' (σ : L2.St) : ∀ (vs : List Nat) (j : Nat), j ∉ vs → (wipe σ vs)[j]? = σ[j]?
  | [], _, _ => rfl
  | v :: vs, j, h => by
    unfold wipe
    rw [List.getElem?_set_ne (fun z => h (by simp [z])), wipe_out' σ vs j (fun z => h (List.mem_cons_of_mem _ z))]
theorem wipe_ch (σ : L2.St) (vs : List Nat) : Ch vs σ (wipe σ vs) := ⟨wipe_length σ vs, fun j h => wipe_out' σ vs j h⟩
theorem wipe_in (σ : L2.St) : ∀ (vs : List Nat) (j : Nat), j ∈ vs → j < σ.length → (wipe σ vs)[j]? = some none
  | [], _, h, _ => nomatch h
  | v :: vs, j, h, hl => by
    unfold wipe
    by_cases e : v = j
    · subst e
      rw [List.getElem?_set_self (by rw [wipe_length]; exact hl)]
    · rw [List.getElem?_set_ne e]
      rcases List.mem_cons.mp h with q | q
      · exact absurd q.symm e
      · exact wipe_in σ vs j q hl
theorem wipe_eq {vs : List Nat} (h : Ch vs σ σ') : wipe σ' vs = wipe σ vs := by
  refine List.ext_getElem? fun j => ?_
  by_cases hj : j ∈ vs
  · by_cases hl : j < σ.length
    · rw [wipe_in σ vs j hj hl, wipe_in σ' vs j hj (by rw [h.len]; exact hl)]
    · have := h.len
      rw [List.getElem?_eq_none (by rw [wipe_length]; omega), List.getElem?_eq_none (by rw [wipe_length]; omega)]
  · rw [wipe_out' _ _ _ hj, wipe_out' _ _ _ hj, h.out j hj]
theorem wipe_wipe (σ : L2.St) (vs : List Nat) : wipe (wipe σ vs) vs = wipe σ vs := wipe_eq (wipe_ch σ vs)
theorem Ch.symm {ix : List Nat} {σ σ' : L2.St} (h : Ch ix σ σ') : Ch ix σ' σ := ⟨h.len.symm, fun j n => (h.out j n).symm⟩
theorem Ch.sub {ix jx : List Nat} {σ σ' : L2.St} (h : Ch ix σ σ') (q : ∀ i ∈ ix, i ∈ jx) : Ch jx σ σ' := ⟨h.len, fun j n => h.out j fun z => n (q j z)⟩
theorem Ch.tr {ix : List Nat} {σ σ' σ'' : L2.St} (a : Ch ix σ σ') (b : Ch ix σ' σ'') : Ch ix σ σ'' := ⟨b.len.trans a.len, fun j h => (b.out j h).trans (a.out j h)⟩
/-- values put back -/
theorem sr_back (hl : LsOk C Y) {ρ0 : Env} {σ : L2.St} {H' : Hp} {M' : Addr → Prop} : ∀ (vs : List Nat), (vs.all fun i => !C.LS.contains i) = true → (∀ (i : Nat) (d : D), ρ0[i]? = some (some (.val d)) → ∃ v, σ[i]? = some (some v) ∧ Rp K H' M' v d) → ∀ {ρ : Env}, SR K Y σ H' M' ρ → SR K Y σ H' M' (DL.back vs ρ0 ρ)
  | [], _, _, _, s => s
  | i :: is, hv, h0, ρ, s => by
    rw [List.all_cons, Bool.and_eq_true] at hv
    unfold DL.back
    split
    · rename_i d e
      obtain ⟨v, e1, r⟩ := h0 i d e
      have s1 := s.setV (i := i) r (hl.ne (by simpa using hv.1))
      have es : σ.set i (some v) = σ := by
        refine List.ext_getElem? fun j => ?_
        by_cases hj : i = j
        · subst hj
          rw [List.getElem?_set_self (List.getElem?_eq_some_iff.mp e1).1, e1]
        · rw [List.getElem?_set_ne hj]
      rw [es] at s1
      exact sr_back hl is hv.2 h0 s1
    · exact sr_back hl is hv.2 h0 s
theorem back_own : ∀ (vs : List Nat) {ρ0 ρ : Env} {j : Nat} {k : Kd} {d : D}, (DL.back vs ρ0 ρ)[j]? = some (some (.own k d)) → ρ[j]? = some (some (.own k d))
  | [], _, _, _, _, _, h => h
  | i :: is, ρ0, ρ, j, k, d, h => by
    unfold DL.back at h
    split at h
    · have q := back_own is h
      rcases getElem?_set' q with ⟨_, _, e⟩ | ⟨_, e⟩
      · cases e
      · exact e
    · exact back_own is h
/-- what nobody's slot owns, but is not others' either, is changed -/
theorem SR.updM (s : SR K Y σ H M ρ) {p : Addr} {o : HO} (nt : ∀ q, H p ≠ some (.tbl q)) (mp : M p) (h0 : Y.H0 p = none) (no : ∀ i, ¬ OwnSl σ ρ i p) : SR K Y σ (upd H p o) M ρ ∧ Stp H M (upd H p o) M := by
  have st : Stp H M (upd H p o) M := ⟨fun b u n _ r => by
    have nb : b ≠ p := fun z => n (z ▸ mp)
    rcases r with r | ⟨x, r⟩
    · exact .inl (by rw [upd_ne nb]; exact r)
    · exact .inr ⟨x, by rw [upd_ne nb]; exact r⟩, fun b x n _ r => by
      have nb : b ≠ p := fun z => n (z ▸ mp)
      rw [upd_ne nb]; exact r, fun _ h => .inl h, upd_al⟩
  refine ⟨⟨s.len, fun b u n m t e => ?_, s.tb.upd nt, s.m0, s.w0, s.lw, s.wl, s.mle, s.st0.trans st, fun b h => ?_, fun i c e => ?_, s.inj, s.own, s.lst⟩, st⟩
  · have nb : b ≠ p := fun z => by rw [z, h0] at e; cases e
    rw [upd_ne nb]; exact s.keep b u n m t e
  · by_cases hb : b = p
    · rw [hb, upd_same]; intro z; cases z
    · rw [upd_ne hb]; exact s.al b h
  · obtain ⟨v, e1, q⟩ := s.slot i c e
    refine ⟨v, e1, ?_⟩
    cases c with
    | val d => exact Rp.step st d v q
    | own k d =>
      obtain ⟨a, ea, m, w⟩ := q
      subst ea
      exact ⟨a, rfl, m, w.step st (upd_ne fun z => no i (z ▸ ⟨⟨k, d, e⟩, e1⟩))⟩
end
section
variable {X : Cx} {C : Cs} {elt tg iter : Expr} {ifs : List Expr} {scope : Scope} {f : Env → Rs D} {tt : Env → Rs Bool} {g : D → Env → Option Env} {fi : Env → Rs (List D)} {pos : Pos}
/-- nothing is raised within -/
abbrev Cs.nx (C : Cs) : Cs := ⟨fun _ _ _ => False, C.LS, C.TB⟩
theorem lc_run {ix vs : List Nat} (hix : (ix.all fun i => vs.contains i) = true) (hvs : (vs.all fun i => !C.LS.contains i) = true) {wi : TI}
    (qi : ∀ (Y : Dy) (σ : L2.St) (H : Hp) (M : Addr → Prop) (ρ : Env) (R : It → Hp → Prop), LsOk C Y → SR (gs X) Y σ H M ρ → Wi (gs X) C Y σ H M (RI (gs X)) (fi ρ) R → wi σ H R)
    {Y : Dy} {σ : L2.St} {H : Hp} {M : Addr → Prop} {ρ : Env} {Q : VK} (hl : LsOk C Y) (s : SR (gs X) Y σ H M ρ) (w : Wi (gs X) C Y σ H M (RF (gs X) Y σ .lst) (dLc fi g tt f vs ρ) Q) :
    tLc wi (TGc (gs X) (Cs.nx C) ix g) (TTc (gs X) (Cs.nx C) tt) (TEc (gs X) (Cs.nx C) f) vs σ H Q := by
  have sub : ∀ i ∈ ix, i ∈ vs := fun i hi => by simpa using List.all_eq_true.mp hix i hi
  refine qi Y σ H M ρ _ hl s ?_
  unfold dLc at w
  cases ef : fi ρ with
  | bad => rw [ef] at w; exact w
  | exn c ρ1 => rw [ef] at w; exact w
  | ok ds ρ1 =>
    rw [ef] at w
    have w0 : Wi (gs X) C Y σ H M (RF (gs X) Y σ .lst) (if ds.length ≤ 16777216 then match lcL g tt f vs ds [] (DL.kill vs ρ1) with
      | some (ys, ρ2) => .ok (.list ys) (DL.back vs ρ1 (DL.kill vs ρ2))
      | none => .bad else .bad) Q := w
    split at w0
    · rename_i hz
      cases ez : lcL g tt f vs ds [] (DL.kill vs ρ1) with
      | none => rw [ez] at w0; exact w0.elim
      | some pz =>
      obtain ⟨yz, ρz⟩ := pz
      rw [ez] at w0
      intro J H1 M1 s1 st1 ok Dl hD
      have slots : ∀ H' M', Stp H1 M1 H' M' → ∀ (i : Nat) (d : D), ρ1[i]? = some (some (.val d)) → ∃ v, σ[i]? = some (some v) ∧ Rp (gs X) H' M' v d := fun H' M' st i d e => by
        obtain ⟨v, e1, q⟩ := s1.slot i _ e
        exact ⟨v, e1, Rp.step st _ _ q⟩
      refine ⟨fun i m H => i ≤ ds.length ∧ m = ds.length - i ∧ ∃ M ρ acc ys, SR (gs X) Y (wipe σ vs) H M ρ ∧ Stp H1 M1 H M ∧ M Dl ∧ H Dl = some (.lst acc) ∧ (∀ j, ¬ OwnSl (wipe σ vs) ρ j Dl) ∧ acc.length ≤ i ∧ RpA (gs X) H M acc ys ∧ lcL g tt f vs (ds.drop i) ys ρ = some (yz, ρz),
        ⟨ds.length, Nat.zero_le _, rfl, Mp M1 Dl, DL.kill vs ρ1, [], [], sr_reslot (s1.more hD) hl hvs (wipe_ch σ vs), .more hD, .inr rfl, upd_same, fun j o => ?_, Nat.zero_le _, .nil, ez⟩, ?_⟩
      · exact ((sr_reslot s1 hl hvs (wipe_ch σ vs)).ownM o).2 hD
      have h0D : Y.H0 Dl = none := s1.h0none hD
      rintro i m H2 ⟨hi, rfl, M2, ρ2, acc, ys, s2, st2, mD, eD, nD, hacc, ra, e2⟩
      obtain ⟨stop, go⟩ := ok H2 M2 st2 s2.al i
      by_cases hlt : i < ds.length
      · have ed : ds[i]? = some ds[i] := List.getElem?_eq_getElem hlt
        obtain ⟨hgo, hy⟩ := go _ ed
        rw [List.drop_eq_getElem_cons hlt] at e2
        unfold lcL at e2
        obtain ⟨ρ3, eg, e3⟩ := bind_some e2
        obtain ⟨⟨b, ρ5⟩, et, e4⟩ := bind_some e3
        refine .inr ⟨hgo, fun H => ∃ M ρ acc ys, SR (gs X) Y (wipe σ vs) H M ρ ∧ Stp H1 M1 H M ∧ M Dl ∧ H Dl = some (.lst acc) ∧ (∀ j, ¬ OwnSl (wipe σ vs) ρ j Dl) ∧ acc.length ≤ i + 1 ∧ RpA (gs X) H M acc ys ∧ lcL g tt f vs (ds.drop (i + 1)) ys ρ = some (yz, ρz), fun H' n => ⟨ds.length - (i + 1), by omega, by omega, rfl, n⟩, fun x H3 hx => ?_⟩
        obtain ⟨gr, rx⟩ := hy x H3 hx
        have s3 := s2.grow gr
        have st3 : Stp H2 M2 H3 M2 := .grow gr
        have eD3 : H3 Dl = some (.lst acc) := gr _ _ eD
        have hlin : LsOk (Cs.nx C) (inner Y (wipe σ vs) H3 M2 ρ2) := hl
        refine ⟨inner Y (wipe σ vs) H3 M2 ρ2, M2, ρ2, ρ3, ds[i], hlin, s3.enter, rx, eg, fun σ4 s4 ch4 => ?_⟩
        have ch : Ch vs (wipe σ vs) σ4 := ch4.sub sub
        -- what stands at the new list behind a part of the turn
        have atD : ∀ {σ6 : L2.St} {H6 : Hp} {M6 : Addr → Prop} {ρ6 : Env}, SR (gs X) (inner Y (wipe σ vs) H3 M2 ρ2) σ6 H6 M6 ρ6 → H6 Dl = some (.lst acc) ∧ M6 Dl ∧ ∀ j, ¬ OwnSl σ6 ρ6 j Dl := fun {σ6 H6 M6 ρ6} s6 => by
          classical
          refine ⟨s3.within s6 mD (fun q z => by cases z) eD3 nD, s6.mle _ ⟨mD, fun z => ?_⟩, fun j o => ?_⟩
          · obtain ⟨j, o⟩ := z.2
            exact nD j o
          · rcases s6.own j _ o with h | h
            · obtain ⟨p, hp, e⟩ := s3.wl _ h
              exact nD p.1 (e ▸ s3.lst p hp)
            · have h' : (if Mine Y (wipe σ vs) ρ2 Dl then none else H3 Dl) = none := h
              rw [if_neg (fun z => by obtain ⟨j, o⟩ := z.2; exact nD j o), eD3] at h'
              cases h'
        refine ⟨by rw [wipe_eq ch, wipe_wipe], inner Y (wipe σ vs) H3 M2 ρ2, M2, ρ3, hlin, s4, ?_⟩
        rw [okO_some et]
        intro b' H5 M5 s5 st5 eb
        have eb' : b' = b := eb
        subst eb'
        cases b' with
        | false =>
          rw [if_neg Bool.false_ne_true] at e4 ⊢
          obtain ⟨eD5, mD5, nD5⟩ := atD s5
          have s6 := sr_reslot (s3.leave s5) hl hvs ch.symm
          have st6 := (st2.trans st3).trans st5
          refine ⟨M5, _, acc, ys, s6, st6, mD5, eD5, fun j o => ?_, by omega, (ra.step (st3.trans st5) _ _), e4⟩
          obtain ⟨⟨k, d, e7⟩, e8⟩ := o
          obtain ⟨n7, e9⟩ := kill_some e7
          exact nD5 j ⟨⟨k, d, e9⟩, by rw [ch.out j n7]; exact e8⟩
        | true =>
          rw [if_pos rfl] at e4 ⊢
          obtain ⟨⟨y, ρ7⟩, ey, e5⟩ := bind_some e4
          refine ⟨inner Y (wipe σ vs) H3 M2 ρ2, M5, ρ5, hlin, s5, ?_⟩
          rw [okO_some ey]
          intro v H7 M7 s7 st7 r7
          obtain ⟨eD7, mD7, nD7⟩ := atD s7
          have hlen : acc.length < sizeLine := by rw [sizeLine_eq]; omega
          refine ⟨acc, eD7, hlen, ?_⟩
          have sL := s3.leave s7
          obtain ⟨s8, st8⟩ := sL.updM (o := .lst (acc ++ [v])) (fun q z => by rw [eD7] at z; cases z) mD7 h0D nD7
          have s9 := sr_reslot s8 hl hvs ch.symm
          have stA := (st3.trans st5).trans st7
          refine ⟨M7, _, acc ++ [v], ys ++ [y], s9, (st2.trans stA).trans st8, mD7, upd_same, fun j o => ?_, by rw [List.length_append]; show acc.length + 1 ≤ i + 1; omega, ((ra.step stA _ _).append (.cons r7 .nil)).step st8 _ _, e5⟩
          obtain ⟨⟨k, d, e7⟩, e8⟩ := o
          obtain ⟨n7, e9⟩ := kill_some e7
          exact nD7 j ⟨⟨k, d, e9⟩, by rw [ch.out j n7]; exact e8⟩
      · have e : i = ds.length := by omega
        subst e
        rw [List.drop_length] at e2
        have e3 : (ys, ρ2) = (yz, ρz) := Option.some.inj e2
        cases e3
        have s3 := sr_reslot s2 hl hvs (wipe_ch σ vs).symm
        have s4 := sr_back (C := C) hl vs hvs (slots H2 M2 st2) s3
        refine .inl ⟨stop (Nat.le_refl _), w0 _ H2 M2 s4 (st1.trans st2) ⟨Dl, rfl, mD, h0D, fun j o => ?_, acc, _, rfl, eD, by rw [sizeLine_eq]; omega, ra⟩⟩
        obtain ⟨⟨k, d, e7⟩, e8⟩ := o
        obtain ⟨n7, e9⟩ := kill_some (back_own vs e7)
        exact nD j ⟨⟨k, d, e9⟩, by rw [wipe_out' _ _ _ n7]; exact e8⟩
    · exact (show False from w0).elim
theorem df_lc {own : List (Str × Nat)} {ix : List Nat} (hc : X.calm = true) (hN : X.N.Nodup) (hi : DI X C tg iter fi) (ok : BlkOk X.N X.env.scope scope own) (hix : (ix.all fun i => (own.map (·.2)).contains i) = true) (hvs : ((own.map (·.2)).all fun i => !C.LS.contains i) = true)
    (hg : ∀ (s : Shared) (H : Hp) (Cc : Addr) (cl : List (Str × Addr)) (fp : List Addr), DG (X.blk s H scope (compEnvC scope cl Cc X.env) fp) (Cs.nx C) tg ix g) (ht : ∀ (s : Shared) (H : Hp) (Cc : Addr) (cl : List (Str × Addr)) (fp : List Addr), DTs (X.blk s H scope (compEnvC scope cl Cc X.env) fp) (Cs.nx C) ifs tt)
    (he : ∀ (s : Shared) (H : Hp) (Cc : Addr) (cl : List (Str × Addr)) (fp : List Addr), DE (X.blk s H scope (compEnvC scope cl Cc X.env) fp) (Cs.nx C) elt f) (hs : ∀ x, foldedSetIterable iter X.env x = pure x := by intro _; rfl) :
    DF X C .lst (.ListComp elt [⟨tg, iter, ifs, 0⟩] scope pos) (dLc fi g tt f (own.map (·.2))) := by
  obtain ⟨wi, pi, qi⟩ := hi.ex
  exact ⟨_, pe_lc hc hN pi ok (fun s H Cc cl fp => (hg s H Cc cl fp).can) (fun s H Cc cl fp => (ht s H Cc cl fp).can) (fun s H Cc cl fp => (he s H Cc cl fp).can) hs, fun Y σ H M ρ Q hl s w => lc_run hix hvs qi hl s w⟩
end
end DL
end

section
set_option Elab.async false
set_option autoImplicit false
set_option linter.all false
set_option maxRecDepth 100000
set_option maxHeartbeats 1000000
/-! DL9: defs and their calls by data. -/
namespace DL
open PySem PySem.Spec PyProof.Rows L2

/-! ### name = a comprehension on one line -/
section
variable {X : Cx} {C : Cs} {elt tg iter : Expr} {ifs : List Expr} {scope : Scope} {f : Env → Rs D} {tt : Env → Rs Bool} {g : D → Env → Option Env} {fi : Env → Rs (List D)} {pos spos py : Pos} {y : Str}
theorem d1_setLcF {i : Nat} {own : List (Str × Nat)} {ix : List Nat} (hc : X.calm = true) (hN : X.N.Nodup) (hy : X.N[i]? = some y) (hyl : X.env.scope.names.lookup y = some .local) (hls : C.LS.contains i = false)
    (hsw : swapsWith (.ListComp elt [⟨tg, iter, ifs, 0⟩] scope pos) (some (.Name y py)) spos.line X.env = pure true) (hi : DI X C tg iter fi) (ok : BlkOk X.N X.env.scope scope own) (hix : (ix.all fun i => (own.map (·.2)).contains i) = true) (hvs : ((own.map (·.2)).all fun i => !C.LS.contains i) = true)
    (hg : ∀ (s : Shared) (H : Hp) (Cc : Addr) (cl : List (Str × Addr)) (fp : List Addr), DG (X.blk s H scope (compEnvC scope cl Cc X.env) fp) (Cs.nx C) tg ix g) (ht : ∀ (s : Shared) (H : Hp) (Cc : Addr) (cl : List (Str × Addr)) (fp : List Addr), DTs (X.blk s H scope (compEnvC scope cl Cc X.env) fp) (Cs.nx C) ifs tt)
    (he : ∀ (s : Shared) (H : Hp) (Cc : Addr) (cl : List (Str × Addr)) (fp : List Addr), DE (X.blk s H scope (compEnvC scope cl Cc X.env) fp) (Cs.nx C) elt f) (hs : ∀ x, foldedSetIterable iter X.env x = pure x := by intro _; rfl) :
    D1 X C (.Assign [.Name y py] (.ListComp elt [⟨tg, iter, ifs, 0⟩] scope pos) spos) (dSetF i .lst (dLc fi g tt f (own.map (·.2)))) := by
  obtain ⟨wi, pi, qi⟩ := hi.ex
  refine ⟨_, ps_setLc (g := TGc (gs X) (Cs.nx C) ix g) (tt := TTc (gs X) (Cs.nx C) tt) (te := TEc (gs X) (Cs.nx C) f) hc hN hy hyl hsw pi ok (fun s H Cc cl fp => (hg s H Cc cl fp).can) (fun s H Cc cl fp => (ht s H Cc cl fp).can) (fun s H Cc cl fp => (he s H Cc cl fp).can) hs, fun Y σ H M ρ Dn hl s w => ?_⟩
  refine lc_run hix hvs qi hl s (Wi.to w fun d ρ1 v H1 M1 s1 st1 r1 w1 => ?_)
  obtain ⟨a, rfl, ma, h0, no, ow⟩ := r1
  refine w1 _ H1 M1 (s1.set (c := .own .lst d) ⟨a, rfl, ma, ow⟩ (hl.ne hls) fun k' d' b e1 e2 => ?_) .refl
  cases e2
  exact ⟨no, .inr h0⟩
theorem d1_setLc {i : Nat} {own : List (Str × Nat)} {ix : List Nat} (hc : X.calm = true) (hN : X.N.Nodup) (hy : X.N[i]? = some y) (hyl : X.env.scope.names.lookup y = some .local) (hls : C.LS.contains i = false)
    (hsw : swapsWith (.ListComp elt [⟨tg, iter, ifs, 0⟩] scope pos) (some (.Name y py)) spos.line X.env = pure true) (hi : DI X C tg iter fi) (ok : BlkOk X.N X.env.scope scope own) (hix : (ix.all fun i => (own.map (·.2)).contains i) = true) (hvs : ((own.map (·.2)).all fun i => !C.LS.contains i) = true)
    (hg : ∀ (s : Shared) (H : Hp) (Cc : Addr) (cl : List (Str × Addr)) (fp : List Addr), DG (X.blk s H scope (compEnvC scope cl Cc X.env) fp) (Cs.nx C) tg ix g) (ht : ∀ (s : Shared) (H : Hp) (Cc : Addr) (cl : List (Str × Addr)) (fp : List Addr), DTs (X.blk s H scope (compEnvC scope cl Cc X.env) fp) (Cs.nx C) ifs tt)
    (he : ∀ (s : Shared) (H : Hp) (Cc : Addr) (cl : List (Str × Addr)) (fp : List Addr), DE (X.blk s H scope (compEnvC scope cl Cc X.env) fp) (Cs.nx C) elt f) (hs : ∀ x, foldedSetIterable iter X.env x = pure x := by intro _; rfl) :
    D1 X C (.Assign [.Name y py] (.ListComp elt [⟨tg, iter, ifs, 0⟩] scope pos) spos) (dSet i (dLc fi g tt f (own.map (·.2)))) := by
  obtain ⟨wi, pi, qi⟩ := hi.ex
  refine ⟨_, ps_setLc (g := TGc (gs X) (Cs.nx C) ix g) (tt := TTc (gs X) (Cs.nx C) tt) (te := TEc (gs X) (Cs.nx C) f) hc hN hy hyl hsw pi ok (fun s H Cc cl fp => (hg s H Cc cl fp).can) (fun s H Cc cl fp => (ht s H Cc cl fp).can) (fun s H Cc cl fp => (he s H Cc cl fp).can) hs, fun Y σ H M ρ Dn hl s w => ?_⟩
  refine lc_run hix hvs qi hl s (Wi.to w fun d ρ1 v H1 M1 s1 st1 r1 w1 => ?_)
  obtain ⟨a, rfl, ma, h0, no, ow⟩ := r1
  have less : ∀ b, Mm M1 a b → M1 b := fun _ q => q.1
  exact w1 _ H1 _ ((s1.drop1 h0 no).setV (ow.rp less fun z => z.2 rfl) (hl.ne hls)) (.less less)
end

/-! ### defs -/
inductive Res
  | ok (d : D) (outs : List D)
  | exn (c : Addr) (outs : List D)
  | bad
abbrev Ln := List (Option Kd)
/-- the addresses that are lent -/
def lentA : Ln → List V → List Addr
  | some _ :: ln, .ref a :: vs => a :: lentA ln vs
  | _ :: ln, _ :: vs => lentA ln vs
  | _, _ => []
inductive ArgsOk (G : Gs) (H : Hp) (M : Addr → Prop) : Ln → List V → List D → Prop
  | nil : ArgsOk G H M [] [] []
  | val {ln : Ln} {v : V} {vs : List V} {d : D} {ds : List D} : Rp G H M v d → ArgsOk G H M ln vs ds → ArgsOk G H M (none :: ln) (v :: vs) (d :: ds)
  | own {ln : Ln} {k : Kd} {a : Addr} {vs : List V} {d : D} {ds : List D} : M a → OwnAt G H M k a d → ArgsOk G H M ln vs ds → ArgsOk G H M (some k :: ln) (.ref a :: vs) (d :: ds)
/-- what was lent, behind the call -/
inductive OutsOk (G : Gs) (H : Hp) (M : Addr → Prop) : Ln → List V → List D → Prop
  | nil : OutsOk G H M [] [] []
  | val {ln : Ln} {v : V} {vs : List V} {ds : List D} : OutsOk G H M ln vs ds → OutsOk G H M (none :: ln) (v :: vs) ds
  | own {ln : Ln} {k : Kd} {a : Addr} {vs : List V} {d : D} {ds : List D} : OwnAt G H M k a d → OutsOk G H M ln vs ds → OutsOk G H M (some k :: ln) (.ref a :: vs) (d :: ds)
def ResOk (G : Gs) (H0 H : Hp) (M : Addr → Prop) (fk : Option Kd) (v : V) (d : D) : Prop := match fk with
  | none => Rp G H M v d
  | some k => ∃ a, v = .ref a ∧ H0 a = none ∧ OwnAt G H (Mp M a) k a d
/-- what is one's own behind the call -/
def ResM (M : Addr → Prop) : Option Kd → V → Addr → Prop
  | some _, .ref a => Mp M a
  | _, _ => M
/-- a def's promise by data: F tells what it gives -/
def Ty (H : Hp) (tb : List Addr) : Dy := ⟨H, fun _ => False, fun _ => False, [], tb⟩
def spF (G : Gs) (tb : List Addr) (n : Nat) (ln : Ln) (fk : Option Kd) (F : List D → Res) : Sp := fun vs H Q E => vs.length = n ∧ ∃ (M : Addr → Prop) (ds : List D), (∀ a, M a → H a ≠ none) ∧ Tbs (Ty H tb) H ∧ ArgsOk G H M ln vs ds ∧ (lentA ln vs).Nodup ∧ match F ds with
  | .ok d outs => ∀ v H', (∀ b o, b ∉ lentA ln vs → M b → NT o → H b = some o → H' b = some o) → Stp H M H' (ResM M fk v) → Tbs (Ty H tb) H' → OutsOk G H' (ResM M fk v) ln vs outs → ResOk G H H' M fk v d → Q v H'
  | .exn c outs => ∀ H', (∀ b o, b ∉ lentA ln vs → M b → NT o → H b = some o → H' b = some o) → Stp H M H' M → Tbs (Ty H tb) H' → OutsOk G H' M ln vs outs → E (.ref c) none H'
  | .bad => False
/-! the body's start and end -/
def startE : Nat → Ln → List D → Env
  | n, none :: ln, d :: ds => some (.val d) :: startE (n - 1) ln ds
  | n, some k :: ln, d :: ds => some (.own k d) :: startE (n - 1) ln ds
  | n, _, _ => List.replicate n none
def lsOf (ln : Ln) : List Nat := (List.range ln.length).filter fun i => match ln[i]? with
  | some (some _) => true
  | _ => false
def lsPf (vs : List V) (i : Nat) : Option (Nat × Addr) := match vs[i]? with
  | some (.ref a) => some (i, a)
  | _ => none
def lsP (ln : Ln) (vs : List V) : List (Nat × Addr) := (lsOf ln).filterMap (lsPf vs)
def outsOf : Ln → Env → List D
  | none :: ln, _ :: ρ => outsOf ln ρ
  | some _ :: ln, some (.own _ d) :: ρ => d :: outsOf ln ρ
  | some _ :: ln, _ :: ρ => .none :: outsOf ln ρ
  | _, _ => []
/-- kinds of what is lent stay -/
def kindsOk : Ln → Env → Bool
  | none :: ln, _ :: ρ => kindsOk ln ρ
  | some k :: ln, some (.own k' _) :: ρ => decide (k = k') && kindsOk ln ρ
  | some _ :: _, _ => false
  | [], _ => true
  | none :: _, [] => false
def resOf (ln : Ln) (fk : Option Kd) : Rt → Res
  | .nx ρ => if fk = none ∧ kindsOk ln ρ = true then .ok .none (outsOf ln ρ) else .bad
  | .rt d ρ => if fk = none ∧ kindsOk ln ρ = true then .ok d (outsOf ln ρ) else .bad
  | .rtf k d ρ => if (fk = none ∨ fk = some k) ∧ kindsOk ln ρ = true then .ok d (outsOf ln ρ) else .bad
  | .exn c ρ => if kindsOk ln ρ = true then .exn c (outsOf ln ρ) else .bad
  | _ => .bad
section
variable {G : Gs} {H H' : Hp} {M M' : Addr → Prop}
theorem ArgsOk.lens : ∀ {ln : Ln} {vs : List V} {ds : List D}, ArgsOk G H M ln vs ds → ln.length = vs.length ∧ vs.length = ds.length
  | _, _, _, .nil => ⟨rfl, rfl⟩
  | _, _, _, .val _ r => ⟨congrArg (· + 1) (ArgsOk.lens r).1, congrArg (· + 1) (ArgsOk.lens r).2⟩
  | _, _, _, .own _ _ r => ⟨congrArg (· + 1) (ArgsOk.lens r).1, congrArg (· + 1) (ArgsOk.lens r).2⟩
theorem ArgsOk.mem : ∀ {ln : Ln} {vs : List V} {ds : List D}, ArgsOk G H M ln vs ds → ∀ a ∈ lentA ln vs, M a
  | _, _, _, .nil, _, h => nomatch h
  | _, _, _, .val (v := v) _ r, a, h => ArgsOk.mem r a (by cases v <;> exact h)
  | _, _, _, .own m _ r, a, h => by
    rcases List.mem_cons.mp h with e | h
    · rw [e]; exact m
    · exact ArgsOk.mem r a h
theorem ArgsOk.atV : ∀ {ln : Ln} {vs : List V} {ds : List D}, ArgsOk G H M ln vs ds → ∀ (i : Nat) (d : D), ln[i]? = some none → ds[i]? = some d → ∃ v, vs[i]? = some v ∧ Rp G H M v d
  | _, _, _, .nil, i, d, h, _ => by simp at h
  | _, _, _, .val (v := v) q r, 0, d, h, e => by
    cases (show some _ = some d from e)
    exact ⟨v, rfl, q⟩
  | _, _, _, .own _ _ r, 0, d, h, e => by cases h
  | _, _, _, .val q r, i + 1, d, h, e => by
    obtain ⟨v, e1, e2⟩ := ArgsOk.atV r i d (by simpa using h) (by simpa using e)
    exact ⟨v, by simpa using e1, e2⟩
  | _, _, _, .own m q r, i + 1, d, h, e => by
    obtain ⟨v, e1, e2⟩ := ArgsOk.atV r i d (by simpa using h) (by simpa using e)
    exact ⟨v, by simpa using e1, e2⟩
theorem ArgsOk.atO : ∀ {ln : Ln} {vs : List V} {ds : List D}, ArgsOk G H M ln vs ds → ∀ (i : Nat) (k : Kd), ln[i]? = some (some k) → ∃ a d, vs[i]? = some (.ref a) ∧ ds[i]? = some d ∧ M a ∧ OwnAt G H M k a d ∧ a ∈ lentA ln vs
  | _, _, _, .nil, i, k, h => by simp at h
  | _, _, _, .val q r, 0, k, h => by cases h
  | _, _, _, .own (a := a) (d := d) m q r, 0, k, h => by
    cases h
    exact ⟨a, d, rfl, rfl, m, q, List.mem_cons_self⟩
  | _, _, _, .val (v := v) q r, i + 1, k, h => by
    obtain ⟨a, d, e1, e2, e3, e4, e5⟩ := ArgsOk.atO r i k (by simpa using h)
    exact ⟨a, d, by simpa using e1, by simpa using e2, e3, e4, by cases v <;> exact e5⟩
  | _, _, _, .own m q r, i + 1, k, h => by
    obtain ⟨a, d, e1, e2, e3, e4, e5⟩ := ArgsOk.atO r i k (by simpa using h)
    exact ⟨a, d, by simpa using e1, by simpa using e2, e3, e4, List.mem_cons_of_mem _ e5⟩
theorem ArgsOk.ofLent : ∀ {ln : Ln} {vs : List V} {ds : List D}, ArgsOk G H M ln vs ds → ∀ a ∈ lentA ln vs, ∃ (i : Nat) (k : Kd), ln[i]? = some (some k) ∧ vs[i]? = some (.ref a)
  | _, _, _, .nil, a, h => nomatch h
  | _, _, _, .val (v := v) q r, a, h => by
    obtain ⟨i, k, e1, e2⟩ := ArgsOk.ofLent r a (by cases v <;> exact h)
    exact ⟨i + 1, k, by simpa using e1, by simpa using e2⟩
  | _, _, _, .own (k := k) m q r, a, h => by
    rcases List.mem_cons.mp h with e | h
    · subst e; exact ⟨0, k, rfl, rfl⟩
    · obtain ⟨i, k, e1, e2⟩ := ArgsOk.ofLent r a h
      exact ⟨i + 1, k, by simpa using e1, by simpa using e2⟩
theorem ArgsOk.inj : ∀ {ln : Ln} {vs : List V} {ds : List D}, ArgsOk G H M ln vs ds → (lentA ln vs).Nodup → ∀ (i j : Nat) (k l : Kd) (a : Addr), ln[i]? = some (some k) → ln[j]? = some (some l) → vs[i]? = some (.ref a) → vs[j]? = some (.ref a) → i = j
  | _, _, _, .nil, _, i, j, k, l, a, h, _, _, _ => by simp at h
  | _, _, _, .val (v := v) q r, nd, i, j, k, l, a, h1, h2, h3, h4 => by
    cases i with
    | zero => cases h1
    | succ i =>
      cases j with
      | zero => cases h2
      | succ j => rw [ArgsOk.inj r (by cases v <;> exact nd) i j k l a (by simpa using h1) (by simpa using h2) (by simpa using h3) (by simpa using h4)]
  | _, _, _, .own m q r, nd, i, j, k, l, a, h1, h2, h3, h4 => by
    obtain ⟨n1, n2⟩ := List.nodup_cons.mp nd
    cases i with
    | zero =>
      cases j with
      | zero => rfl
      | succ j =>
        cases h3
        obtain ⟨b, d, e1, _, _, _, e5⟩ := ArgsOk.atO r j l (by simpa using h2)
        have e6 : some (V.ref b) = some (V.ref _) := e1.symm.trans (by simpa using h4)
        cases e6
        exact absurd e5 n1
    | succ i =>
      cases j with
      | zero =>
        cases h4
        obtain ⟨b, d, e1, _, _, _, e5⟩ := ArgsOk.atO r i k (by simpa using h1)
        have e6 : some (V.ref b) = some (V.ref _) := e1.symm.trans (by simpa using h3)
        cases e6
        exact absurd e5 n1
      | succ j => rw [ArgsOk.inj r n2 i j k l a (by simpa using h1) (by simpa using h2) (by simpa using h3) (by simpa using h4)]
theorem startE_get : ∀ {ln : Ln} {ds : List D} {n : Nat} (i : Nat) (c : Cell), (startE n ln ds)[i]? = some (some c) → (∃ d, c = .val d ∧ ln[i]? = some none ∧ ds[i]? = some d) ∨ ∃ k d, c = .own k d ∧ ln[i]? = some (some k) ∧ ds[i]? = some d
  | none :: ln, d :: ds, n, 0, c, h => by
    have h' : some (Cell.val d) = some c := Option.some.inj h
    cases h'
    exact .inl ⟨d, rfl, rfl, rfl⟩
  | some k :: ln, d :: ds, n, 0, c, h => by
    have h' : some (Cell.own k d) = some c := Option.some.inj h
    cases h'
    exact .inr ⟨k, d, rfl, rfl, rfl⟩
  | none :: ln, d :: ds, n, i + 1, c, h => by
    have h' : (startE (n - 1) ln ds)[i]? = some (some c) := by simpa [startE] using h
    rcases startE_get i c h' with ⟨d', e1, e2, e3⟩ | ⟨k, d', e1, e2, e3⟩
    · exact .inl ⟨d', e1, by simpa using e2, by simpa using e3⟩
    · exact .inr ⟨k, d', e1, by simpa using e2, by simpa using e3⟩
  | some k :: ln, d :: ds, n, i + 1, c, h => by
    have h' : (startE (n - 1) ln ds)[i]? = some (some c) := by simpa [startE] using h
    rcases startE_get i c h' with ⟨d', e1, e2, e3⟩ | ⟨k, d', e1, e2, e3⟩
    · exact .inl ⟨d', e1, by simpa using e2, by simpa using e3⟩
    · exact .inr ⟨k, d', e1, by simpa using e2, by simpa using e3⟩
  | [], ds, n, i, c, h => by
    unfold startE at h
    rw [List.getElem?_replicate] at h
    split at h <;> cases h
  | none :: ln, [], n, i, c, h => by
    unfold startE at h
    rw [List.getElem?_replicate] at h
    split at h <;> cases h
  | some k :: ln, [], n, i, c, h => by
    unfold startE at h
    rw [List.getElem?_replicate] at h
    split at h <;> cases h
theorem startE_own : ∀ {ln : Ln} {ds : List D} {n : Nat} (i : Nat) (k : Kd), ln.length = ds.length → ln[i]? = some (some k) → ∃ d, (startE n ln ds)[i]? = some (some (.own k d))
  | [], _, _, i, k, _, h => by simp at h
  | _ :: _, [], _, _, _, h, _ => by simp at h
  | none :: ln, d :: ds, n, 0, k, _, h => by cases h
  | some k :: ln, d :: ds, n, 0, k', _, h => by cases h; exact ⟨d, rfl⟩
  | none :: ln, d :: ds, n, i + 1, k, hl, h => by
    obtain ⟨d', e⟩ := startE_own (n := n - 1) i k (by simpa using hl) (by simpa using h)
    exact ⟨d', by simpa [startE] using e⟩
  | some k0 :: ln, d :: ds, n, i + 1, k, hl, h => by
    obtain ⟨d', e⟩ := startE_own (n := n - 1) i k (by simpa using hl) (by simpa using h)
    exact ⟨d', by simpa [startE] using e⟩
theorem startE_len : ∀ {ln : Ln} {ds : List D} {n : Nat}, ln.length = ds.length → ln.length ≤ n → (startE n ln ds).length = n
  | [], _, n, _, _ => by unfold startE; rw [List.length_replicate]
  | _ :: _, [], _, h, _ => by simp at h
  | none :: ln, d :: ds, n, h, hn => by
    have hn' : ln.length + 1 ≤ n := hn
    have := startE_len (n := n - 1) (ln := ln) (ds := ds) (by simpa using h) (by omega)
    show (startE (n - 1) ln ds).length + 1 = n
    omega
  | some k :: ln, d :: ds, n, h, hn => by
    have hn' : ln.length + 1 ≤ n := hn
    have := startE_len (n := n - 1) (ln := ln) (ds := ds) (by simpa using h) (by omega)
    show (startE (n - 1) ln ds).length + 1 = n
    omega
theorem mem_lsOf {ln : Ln} {i : Nat} : i ∈ lsOf ln ↔ ∃ k, ln[i]? = some (some k) := by
  unfold lsOf
  rw [List.mem_filter, List.mem_range]
  constructor
  · rintro ⟨_, h⟩
    split at h
    · rename_i k e; exact ⟨_, e⟩
    · cases h
  · rintro ⟨k, e⟩
    refine ⟨(List.getElem?_eq_some_iff.mp e).1, ?_⟩
    rw [e]
theorem mem_lsP {ln : Ln} {vs : List V} {p : Nat × Addr} : p ∈ lsP ln vs ↔ (∃ k, ln[p.1]? = some (some k)) ∧ vs[p.1]? = some (.ref p.2) := by
  unfold lsP
  rw [List.mem_filterMap]
  constructor
  · rintro ⟨i, hi, e⟩
    unfold lsPf at e
    split at e
    · rename_i a ea
      cases e
      exact ⟨mem_lsOf.mp hi, ea⟩
    · cases e
  · rintro ⟨hk, e⟩
    refine ⟨p.1, mem_lsOf.mpr hk, ?_⟩
    unfold lsPf
    rw [e]
theorem lsP_fst {ln : Ln} {vs : List V} {ds : List D} (r : ArgsOk G H M ln vs ds) : (lsP ln vs).map (·.1) = lsOf ln := by
  have all : ∀ l : List Nat, (∀ i ∈ l, i ∈ lsOf ln) → (l.filterMap (lsPf vs)).map (·.1) = l := by
    intro l
    induction l with
    | nil => intro _; rfl
    | cons i l ih =>
      intro h
      obtain ⟨k, ek⟩ := mem_lsOf.mp (h i List.mem_cons_self)
      obtain ⟨a, d, ea, _⟩ := r.atO i k ek
      have e : lsPf vs i = some (i, a) := by unfold lsPf; rw [ea]
      rw [List.filterMap_cons, e]
      show i :: List.map (·.1) (l.filterMap (lsPf vs)) = i :: l
      rw [ ih fun j hj => h j (List.mem_cons_of_mem _ hj)]
  exact all _ fun _ h => h
theorem start_σ {N : List Str} {vs : List V} {i : Nat} {v : V} (h : vs[i]? = some v) : (L2.start N vs)[i]? = some (some v) := by
  unfold L2.start
  have hi : i < vs.length := (List.getElem?_eq_some_iff.mp h).1
  rw [List.getElem?_append_left (by simpa using hi), List.getElem?_map, h]
  rfl
theorem σ_start {N : List Str} {vs : List V} {i : Nat} {v : V} (h : (L2.start N vs)[i]? = some (some v)) : vs[i]? = some v := by
  unfold L2.start at h
  by_cases hi : i < vs.length
  · rw [List.getElem?_append_left (by simpa using hi), List.getElem?_map] at h
    cases e : vs[i]? with
    | none => rw [e] at h; cases h
    | some a => rw [e] at h; cases h; rfl
  · rw [List.getElem?_append_right (by simpa using hi), List.getElem?_replicate] at h
    split at h <;> cases h
/-- a def's frame begins -/
theorem SR.begin {N : List Str} {tb : List Addr} (t : Tbs (Ty H tb) H) {ln : Ln} {vs : List V} {ds : List D} (al : ∀ a, M a → H a ≠ none) (r : ArgsOk G H M ln vs ds) (nd : (lentA ln vs).Nodup) (hN : ln.length ≤ N.length) :
    SR G ⟨H, M, fun a => a ∈ lentA ln vs, lsP ln vs, tb⟩ (L2.start N vs) H M (startE N.length ln ds) := by
  obtain ⟨l1, l2⟩ := r.lens
  have own : ∀ i a, OwnSl (L2.start N vs) (startE N.length ln ds) i a → ∃ k, ln[i]? = some (some k) ∧ vs[i]? = some (.ref a) := fun i a q => by
    obtain ⟨⟨k, d, e1⟩, e2⟩ := q
    rcases startE_get i _ e1 with ⟨d', e3, _⟩ | ⟨k', d', e3, e4, e5⟩
    · cases e3
    · exact ⟨k', e4, σ_start e2⟩
  refine ⟨?_, fun b o _ _ _ e => e, ⟨t.tk, t.at_⟩, al, r.mem, fun p hp => ?_, fun a ha => ?_, fun a h => h, .refl, al, fun i c e => ?_, fun i j a q1 q2 => ?_, fun i a q => ?_, fun p hp => ?_⟩
  · rw [startE_len (by omega) hN]
    unfold L2.start
    rw [List.length_append, List.length_map, List.length_replicate]
    omega
  · obtain ⟨⟨k, ek⟩, e⟩ := mem_lsP.mp hp
    obtain ⟨a, d, e1, _, _, _, e5⟩ := r.atO _ k ek
    rw [e] at e1
    cases e1
    exact e5
  · obtain ⟨i, k, e1, e2⟩ := r.ofLent a ha
    exact ⟨(i, a), mem_lsP.mpr ⟨⟨k, e1⟩, e2⟩, rfl⟩
  · rcases startE_get i c e with ⟨d, rfl, e1, e2⟩ | ⟨k, d, rfl, e1, e2⟩
    · obtain ⟨v, e3, q⟩ := r.atV i d e1 e2
      exact ⟨v, start_σ e3, q⟩
    · obtain ⟨a, d', e3, e4, m, q, _⟩ := r.atO i k e1
      rw [e2] at e4
      cases e4
      exact ⟨_, start_σ e3, a, rfl, m, q⟩
  · obtain ⟨k, e1, e2⟩ := own i a q1
    obtain ⟨l, e3, e4⟩ := own j a q2
    exact r.inj nd i j k l a e1 e3 e2 e4
  · obtain ⟨k, e1, e2⟩ := own i a q
    obtain ⟨b, d, e3, _, _, _, e5⟩ := r.atO i k e1
    rw [e2] at e3
    cases e3
    exact .inl e5
  · obtain ⟨⟨k, ek⟩, e⟩ := mem_lsP.mp hp
    obtain ⟨d, e1⟩ := startE_own (ds := ds) (n := N.length) p.1 k (l1.trans l2) ek
    exact ⟨⟨k, d, e1⟩, start_σ e⟩
/-- what was lent, at the end -/
theorem outs_ok {H' : Hp} : ∀ {ln : Ln} {vs : List V} {ds : List D} {ρ : Env}, ArgsOk G H M ln vs ds → kindsOk ln ρ = true → (∀ (i : Nat) (k : Kd) (a : Addr) (d : D), ln[i]? = some (some k) → vs[i]? = some (.ref a) → ρ[i]? = some (some (.own k d)) → OwnAt G H' M' k a d) → OutsOk G H' M' ln vs (outsOf ln ρ)
  | _, _, _, _, .nil, _, _ => .nil
  | _, _, _, [], .val _ _, h, _ => by cases h
  | _, _, _, c :: ρ, .val q r, h, f => .val (outs_ok r h fun i k a d e1 e2 e3 => f (i + 1) k a d (by simpa using e1) (by simpa using e2) (by simpa using e3))
  | _, _, _, some (.own k' d) :: ρ, .own (k := k) m q r, h, f => by
    have h' : (decide (k = k') && kindsOk _ ρ) = true := h
    rw [Bool.and_eq_true, decide_eq_true_eq] at h'
    obtain ⟨rfl, h2⟩ := h'
    exact .own (f 0 k _ d rfl rfl rfl) (outs_ok r h2 fun i k a d e1 e2 e3 => f (i + 1) k a d (by simpa using e1) (by simpa using e2) (by simpa using e3))
  | _, _, _, some (.val _) :: ρ, .own _ _ _, h, _ => by cases h
  | _, _, _, none :: ρ, .own _ _ _, h, _ => by cases h
  | _, _, _, [], .own _ _ _, h, _ => by cases h
end
section
variable {P : Program} {w : World} {K : PySem.W.Frag} {mg : Str → Option Value} {base : Heap}
/-- the body's run -/
theorem fn_core {tb : List Addr} {st : Stmt} {N ps : List Str} {ln : Ln} {fk : Option Kd} {F : List D → Res} {g : Env → Rt} {H : Hp} {E : XK} {vs : List V} {Q : VK} {X : Cx} (hb : DS X ⟨fun _ _ _ => False, lsOf ln, tb⟩ (defBody st) g) (hln : ln.length = ps.length) (hN : ln.length ≤ N.length)
    (hF : ∀ ds d outs, F ds = .ok d outs → resOf ln fk (g (startE N.length ln ds)) = .ok d outs) (hX : ∀ ds c outs, F ds ≠ .exn c outs) (h : spF (gs X) tb ps.length ln fk F vs H Q E) :
    ∃ t, PSs X (defBody st) t ∧ t { nx := fun _ H' => Q .non H', rt := Q } (L2.start N vs) H := by
  obtain ⟨hv, M, ds, al, tbs, ar, nd, h⟩ := h
  obtain ⟨t, pt, qt⟩ := hb.ex
  refine ⟨t, pt, ?_⟩
  have sb := SR.begin (N := N) tbs al ar nd hN
  cases eF : F ds with
  | bad => rw [eF] at h; exact h.elim
  | exn c outs => exact absurd eF (hX ds c outs)
  | ok d outs =>
    rw [eF] at h
    have er := hF ds d outs eF
    refine qt ⟨H, M, fun a => a ∈ lentA ln vs, lsP ln vs, tb⟩ (L2.start N vs) H M _ _ ⟨lsP_fst ar, rfl⟩ sb ?_
    have fin : ∀ {σ' : L2.St} {H' : Hp} {M' : Addr → Prop} {ρ' : Env}, SR (gs X) ⟨H, M, fun a => a ∈ lentA ln vs, lsP ln vs, tb⟩ σ' H' M' ρ' → kindsOk ln ρ' = true → ∀ M2, (∀ b, M2 b → M' b) → OutsOk (gs X) H' M2 ln vs (outsOf ln ρ') := fun {σ' H' M' ρ'} s' hk M2 hm =>
      outs_ok ar hk fun i k a d e1 e2 e3 => by
        have o := s'.lst (i, a) (mem_lsP.mpr ⟨⟨k, e1⟩, e2⟩)
        obtain ⟨b, ob, mb, ow⟩ := s'.ownAt e3
        have e4 := o.2.symm.trans ob.2
        cases e4
        exact ow.step (.less hm) rfl
    cases eg : g (startE N.length ln ds) with
    | nx ρ' =>
      rw [eg] at er
      have er' : (if fk = none ∧ kindsOk ln ρ' = true then Res.ok .none (outsOf ln ρ') else .bad) = .ok d outs := er
      split at er'
      · rename_i hc
        cases er'
        intro σ' H' M' s' st'
        refine h .non H' s'.keep (s'.st0.trans (.less (by rw [hc.1]; exact s'.mle))) ⟨s'.tb.tk, s'.tb.at_⟩ (fin s' hc.2 _ (by rw [hc.1]; exact s'.mle)) ?_
        rw [hc.1]
        exact Rp.non
      · cases er'
    | rt d' ρ' =>
      rw [eg] at er
      have er' : (if fk = none ∧ kindsOk ln ρ' = true then Res.ok d' (outsOf ln ρ') else .bad) = .ok d outs := er
      split at er'
      · rename_i hc
        cases er'
        intro v σ' H' M' s' st' rp
        refine h v H' s'.keep (s'.st0.trans (.less (by rw [hc.1]; exact s'.mle))) ⟨s'.tb.tk, s'.tb.at_⟩ (fin s' hc.2 _ (by rw [hc.1]; exact s'.mle)) ?_
        rw [hc.1]
        exact Rp.step (.less s'.mle) _ _ rp
      · cases er'
    | rtf k' d' ρ' =>
      rw [eg] at er
      have er' : (if (fk = none ∨ fk = some k') ∧ kindsOk ln ρ' = true then Res.ok d' (outsOf ln ρ') else .bad) = .ok d outs := er
      split at er'
      · rename_i hc
        cases er'
        intro a σ' H' M' s' st' ma h0 ow
        have less : ∀ b, Mp M a b → M' b := fun b q => by
          rcases q with q | q
          · exact s'.mle b q
          · rw [q]; exact ma
        refine h _ H' s'.keep (s'.st0.trans (.less (by rcases hc.1 with e | e <;> rw [e]; exact s'.mle; exact less))) ⟨s'.tb.tk, s'.tb.at_⟩ (fin s' hc.2 _ (by rcases hc.1 with e | e <;> rw [e]; exact s'.mle; exact less)) ?_
        have nM : ¬ M a := fun z => al a z h0
        rcases hc.1 with e | e
        · rw [e]
          exact ow.rp (fun b q => s'.mle b q) nM
        · rw [e]
          exact ⟨a, rfl, h0, ow.step (.less less) rfl⟩
      · cases er'
    | bk ρ' => rw [eg] at er; cases er
    | ct ρ' => rw [eg] at er; cases er
    | exn c ρ' =>
      rw [eg] at er
      have er' : (if kindsOk ln ρ' = true then Res.exn c (outsOf ln ρ') else .bad) = .ok d outs := er
      split at er' <;> cases er'
    | bad => rw [eg] at er; cases er
/-- a def that lets no exception out, by its body's data -/
theorem fn_data {tb : List Addr} {x qual : Str} {st : Stmt} {f : Addr} {fd : FuncData} {N ps : List Str} {k : Nat} {ln : Ln} {fk : Option Kd} {F : List D → Res} {g : Env → Rt} (U : Fun K x qual st f fd) (S : FnScope N ps (defScope st)) (hln : ln.length = ps.length) (hN : ln.length ≤ N.length)
    (hb : ∀ (cdv : Value) (A : Around) (outer : List PySem.Env) (s : Shared) (H : Hp) (E : XK), Room k (A.deeper (envOfC qual (defScope st) s.heap.objs.size f cdv)) →
      DS (cxOf CX0 P w K mg base N qual (defScope st) f cdv A outer s H E).nox ⟨fun _ _ _ => False, lsOf ln, tb⟩ (defBody st) g)
    (hF : ∀ ds d outs, F ds = .ok d outs → resOf ln fk (g (startE N.length ln ds)) = .ok d outs) (hX : ∀ ds c outs, F ds ≠ .exn c outs) :
    FnOk P w K mg base CX0 (k + 1) f fd ps (spF ⟨P, w, K⟩ tb ps.length ln fk F) := by
  exact U.ok S (fun vs H Q E h => h.1) (fun cdv A outer s H vs Q E hr h => fn_core (hb cdv A outer s H E hr) hln hN hF hX h)
end
/-! ### calls -/
def argD (ρ : Env) : Ln → List Arg → Option (List D)
  | [], [] => some []
  | none :: ln, .imm d :: xs => (argD ρ ln xs).map fun ds => d :: ds
  | some k :: ln, .own i :: xs => match ρ[i]? with
    | some (some (.own k' d)) => if k = k' then (argD ρ ln xs).map fun ds => d :: ds else none
    | _ => none
  | _, _ => none
def ownIx : Ln → List Arg → List Nat
  | some _ :: ln, .own i :: xs => i :: ownIx ln xs
  | _ :: ln, _ :: xs => ownIx ln xs
  | _, _ => []
/-- what was lent is put back -/
def setOuts : Ln → List Arg → List D → Env → Env
  | some k :: ln, .own i :: xs, d :: ds, ρ => setOuts ln xs ds (ρ.set i (some (.own k d)))
  | none :: ln, _ :: xs, ds, ρ => setOuts ln xs ds ρ
  | _, _, _, ρ => ρ
def dCall (ln : Ln) (F : List D → Res) (fr : Env → Rs (List Arg)) : Env → Rs D := fun ρ => (fr ρ).bind fun xs ρ1 => match argD ρ1 ln xs with
  | some ds => if (ownIx ln xs).Nodup then match F ds with
      | .ok d outs => .ok d (setOuts ln xs outs ρ1)
      | _ => .bad
    else .bad
  | none => .bad
section
variable {G : Gs} {Y : Dy} {σ : L2.St} {H : Hp} {M : Addr → Prop} {ρ : Env}
theorem args_of (s : SR G Y σ H M ρ) : ∀ {ln : Ln} {vs : List V} {xs : List Arg} {ds : List D}, ARs G H M σ vs xs → argD ρ ln xs = some ds → ArgsOk G H M ln vs ds
  | [], _, _, _, .nil, h => by cases h; exact .nil
  | [], _, _, _, .cons _ _, h => by cases h
  | none :: ln, _, _, _, .nil, h => by cases h
  | some k :: ln, _, _, _, .nil, h => by cases h
  | none :: ln, _, _, _, .cons (x := .imm d) q r, h => by
    obtain ⟨ds, e, rfl⟩ := Option.map_eq_some_iff.mp (show (argD ρ ln _).map (fun ds => d :: ds) = some _ from h)
    exact .val q (args_of s r e)
  | none :: ln, _, _, _, .cons (x := .own i) q r, h => by cases h
  | some k :: ln, _, _, _, .cons (x := .imm d) q r, h => by cases h
  | some k :: ln, _, _, _, .cons (x := .own i) (xs := xs) q r, h => by
    have h' : (match ρ[i]? with
      | some (some (.own k' d)) => if k = k' then (argD ρ ln xs).map fun ds => d :: ds else none
      | _ => none) = some _ := h
    split at h'
    · rename_i k' d e1
      split at h'
      · rename_i ek
        subst ek
        obtain ⟨ds, e, rfl⟩ := Option.map_eq_some_iff.mp h'
        obtain ⟨a, os, m, ow⟩ := s.ownAt e1
        obtain ⟨b, rfl, e2⟩ := q
        rw [os.2] at e2
        cases e2
        exact .own m ow (args_of s r e)
      · cases h'
    · cases h'
/-- the addresses lent are those of the slots -/
theorem lent_of (s : SR G Y σ H M ρ) : ∀ {ln : Ln} {vs : List V} {xs : List Arg} {ds : List D}, ARs G H M σ vs xs → argD ρ ln xs = some ds → ∀ a ∈ lentA ln vs, ∃ i ∈ ownIx ln xs, OwnSl σ ρ i a
  | [], _, _, _, .nil, h, a, ha => nomatch ha
  | [], _, _, _, .cons _ _, h, a, ha => nomatch ha
  | none :: ln, _, _, _, .nil, h, a, ha => nomatch ha
  | some k :: ln, _, _, _, .nil, h, a, ha => nomatch ha
  | none :: ln, _, _, _, .cons (x := .imm d) (v := v) q r, h, a, ha => by
    obtain ⟨ds, e, rfl⟩ := Option.map_eq_some_iff.mp (show (argD ρ ln _).map (fun ds => d :: ds) = some _ from h)
    exact lent_of s r e a (by cases v <;> exact ha)
  | none :: ln, _, _, _, .cons (x := .own i) q r, h, a, ha => by cases h
  | some k :: ln, _, _, _, .cons (x := .imm d) q r, h, a, ha => by cases h
  | some k :: ln, _, _, _, .cons (x := .own i) (xs := xs) q r, h, a, ha => by
    have h' : (match ρ[i]? with
      | some (some (.own k' d)) => if k = k' then (argD ρ ln xs).map fun ds => d :: ds else none
      | _ => none) = some _ := h
    split at h'
    · rename_i k' d e1
      split at h'
      · obtain ⟨ds, e, rfl⟩ := Option.map_eq_some_iff.mp h'
        obtain ⟨b, rfl, e2⟩ := q
        rcases List.mem_cons.mp ha with ea | ha
        · subst ea
          exact ⟨i, List.mem_cons_self, ⟨_, d, e1⟩, e2⟩
        · obtain ⟨j, hj, o⟩ := lent_of s r e a ha
          exact ⟨j, List.mem_cons_of_mem _ hj, o⟩
      · cases h'
    · cases h'
theorem lent_nd (s : SR G Y σ H M ρ) : ∀ {ln : Ln} {vs : List V} {xs : List Arg} {ds : List D}, ARs G H M σ vs xs → argD ρ ln xs = some ds → (ownIx ln xs).Nodup → (lentA ln vs).Nodup
  | [], _, _, _, .nil, h, n => List.nodup_nil
  | [], _, _, _, .cons _ _, h, n => List.nodup_nil
  | none :: ln, _, _, _, .nil, h, n => List.nodup_nil
  | some k :: ln, _, _, _, .nil, h, n => List.nodup_nil
  | none :: ln, _, _, _, .cons (x := .imm d) (v := v) q r, h, n => by
    obtain ⟨ds, e, rfl⟩ := Option.map_eq_some_iff.mp (show (argD ρ ln _).map (fun ds => d :: ds) = some _ from h)
    have := lent_nd s r e n
    cases v <;> exact this
  | none :: ln, _, _, _, .cons (x := .own i) q r, h, n => by cases h
  | some k :: ln, _, _, _, .cons (x := .imm d) q r, h, n => by cases h
  | some k :: ln, _, _, _, .cons (x := .own i) (xs := xs) q r, h, n => by
    have h' : (match ρ[i]? with
      | some (some (.own k' d)) => if k = k' then (argD ρ ln xs).map fun ds => d :: ds else none
      | _ => none) = some _ := h
    split at h'
    · rename_i k' d e1
      split at h'
      · obtain ⟨ds, e, rfl⟩ := Option.map_eq_some_iff.mp h'
        obtain ⟨b, rfl, e2⟩ := q
        obtain ⟨n1, n2⟩ := List.nodup_cons.mp n
        refine List.nodup_cons.mpr ⟨fun z => ?_, lent_nd s r e n2⟩
        obtain ⟨j, hj, o⟩ := lent_of s r e b z
        have : i = j := s.inj i j b ⟨⟨_, d, e1⟩, e2⟩ o
        exact n1 (this ▸ hj)
      · cases h'
    · cases h'
end


section
variable {G : Gs} {Y : Dy} {σ : L2.St} {H H' : Hp} {M M' : Addr → Prop} {ρ ρ0 : Env}
theorem setOuts_len : ∀ (ln : Ln) (xs : List Arg) (ds : List D) (ρ : Env), (setOuts ln xs ds ρ).length = ρ.length
  | some k :: ln, .own i :: xs, d :: ds, ρ => by
    show (setOuts ln xs ds (ρ.set i (some (.own k d)))).length = ρ.length
    rw [setOuts_len ln xs ds, List.length_set]
  | none :: ln, x :: xs, ds, ρ => setOuts_len ln xs ds ρ
  | [], _, _, _ => by unfold setOuts; rfl
  | none :: _, [], _, _ => by unfold setOuts; rfl
  | some _ :: _, [], _, _ => by unfold setOuts; rfl
  | some _ :: _, .imm _ :: _, _, _ => by unfold setOuts; rfl
  | some _ :: _, .own _ :: _, [], _ => by unfold setOuts; rfl
/-- the slots behind a call: each as it was, or lent and put back -/
def Put (G : Gs) (σ : L2.St) (H' : Hp) (M' : Addr → Prop) (L : Addr → Prop) (ρ ρ' : Env) : Prop := ∀ j c, ρ'[j]? = some (some c) → ρ[j]? = some (some c) ∧ (∀ a, OwnSl σ ρ j a → ¬ L a) ∨ ∃ k d a, c = .own k d ∧ OwnSl σ ρ j a ∧ OwnAt G H' M' k a d
theorem outs_put (inj : ∀ i j a, OwnSl σ ρ0 i a → OwnSl σ ρ0 j a → i = j) : ∀ {ln : Ln} {vs : List V} {xs : List Arg} {ds outs : List D} {ρ : Env} {L : Addr → Prop}, OutsOk G H' M' ln vs outs → ARs G H M σ vs xs → argD ρ0 ln xs = some ds → Put G σ H' M' L ρ0 ρ →
    Put G σ H' M' (fun a => L a ∨ a ∈ lentA ln vs) ρ0 (setOuts ln xs outs ρ)
  | [], _, _, _, _, ρ, L, .nil, _, _, p => fun j c e => (p j c e).imp (fun q => ⟨q.1, fun a o z => z.elim (q.2 a o) (fun z => nomatch z)⟩) id
  | none :: ln, v :: _, x :: _, _, _, ρ, L, .val o, .cons q r, h, p => by
    cases x with
    | own i => cases h
    | imm d =>
      obtain ⟨ds, e, rfl⟩ := Option.map_eq_some_iff.mp (show (argD ρ0 ln _).map (fun ds => d :: ds) = some _ from h)
      have ih := outs_put inj (L := L) o r e p
      cases v <;> exact ih
  | some k :: ln, _, x :: xs, _, _, ρ, L, .own (a := a) (d := d) w o, .cons q r, h, p => by
    cases x with
    | imm d => cases h
    | own i =>
      have h' : (match ρ0[i]? with
        | some (some (.own k' d)) => if k = k' then (argD ρ0 ln xs).map fun ds => d :: ds else none
        | _ => none) = some _ := h
      split at h'
      · rename_i k' d' e1
        split at h'
        · obtain ⟨ds, e, rfl⟩ := Option.map_eq_some_iff.mp h'
          obtain ⟨b, eb, e2⟩ := q
          cases eb
          have os : OwnSl σ ρ0 i a := ⟨⟨k', d', e1⟩, e2⟩
          have p2 : Put G σ H' M' (fun b => L b ∨ b = a) ρ0 (ρ.set i (some (.own k d))) := fun j c ec => by
            rcases getElem?_set' ec with ⟨rfl, _, e3⟩ | ⟨n3, e3⟩
            · have e4 := Option.some.inj e3
              exact .inr ⟨k, d, a, e4.symm, os, w⟩
            · rcases p j c e3 with ⟨g1, g2⟩ | g
              · exact .inl ⟨g1, fun b ob z => z.elim (g2 b ob) (fun z => n3 (inj _ _ _ (z ▸ ob) os))⟩
              · exact .inr g
          have ih := outs_put inj o r e p2
          intro j c ec
          refine (ih j c ec).imp (fun g => ⟨g.1, fun b ob z => g.2 b ob ?_⟩) id
          rcases z with z | z
          · exact .inl (.inl z)
          · rcases List.mem_cons.mp z with z | z
            · exact .inl (.inr z)
            · exact .inr z
        · cases h'
      · cases h'
/-- what is owned stays owned -/
theorem outs_own : ∀ (ln : Ln) (xs : List Arg) (ds : List D) (ρ : Env) (j : Nat), (∃ k d, ρ[j]? = some (some (.own k d))) → ∃ k d, (setOuts ln xs ds ρ)[j]? = some (some (.own k d))
  | some k :: ln, .own i :: xs, d :: ds, ρ, j, h => outs_own ln xs ds _ j (by
      obtain ⟨k', d', e⟩ := h
      by_cases hi : i = j
      · subst hi
        exact ⟨k, d, by rw [List.getElem?_set_self (List.getElem?_eq_some_iff.mp e).1]⟩
      · exact ⟨k', d', by rw [List.getElem?_set_ne hi]; exact e⟩)
  | none :: ln, x :: xs, ds, ρ, j, h => outs_own ln xs ds ρ j h
  | [], _, _, _, _, h => by unfold setOuts; exact h
  | none :: _, [], _, _, _, h => by unfold setOuts; exact h
  | some _ :: _, [], _, _, _, h => by unfold setOuts; exact h
  | some _ :: _, .imm _ :: _, _, _, _, h => by unfold setOuts; exact h
  | some _ :: _, .own _ :: _, [], _, _, h => by unfold setOuts; exact h
theorem OutsOk.at : ∀ {ln : Ln} {vs : List V} {ds : List D}, OutsOk G H M ln vs ds → ∀ a ∈ lentA ln vs, H a ≠ none
  | _, _, _, .nil, _, h => nomatch h
  | _, _, _, .val (v := v) r, a, h => OutsOk.at r a (by cases v <;> exact h)
  | _, _, _, .own w r, a, h => by
    rcases List.mem_cons.mp h with e | h
    · rw [e]; exact w.some
    · exact OutsOk.at r a h
/-- behind a call -/
theorem SR.call (s : SR G Y σ H M ρ) {ln : Ln} {vs : List V} {xs : List Arg} {ds outs : List D} (r : ARs G H M σ vs xs) (h : argD ρ ln xs = some ds) (kp : ∀ b o, b ∉ lentA ln vs → M b → NT o → H b = some o → H' b = some o) (st : Stp H M H' M') (tb : Tbs (Ty H Y.tb) H') (ou : OutsOk G H' M' ln vs outs)
    (up : ∀ b, M b → M' b) (nw : ∀ b, M' b → M b ∨ H' b ≠ none) : SR G Y σ H' M' (setOuts ln xs outs ρ) ∧ Stp H M H' M' ∧ ∀ j a, OwnSl σ (setOuts ln xs outs ρ) j a → OwnSl σ ρ j a := by
  have aok := args_of s r h
  have lm : ∀ b, b ∈ lentA ln vs → M b := aok.mem
  have P := outs_put (M' := M') (ρ := ρ) (L := fun _ => False) s.inj ou r h fun j c e => .inl ⟨e, fun _ _ z => z⟩
  have ov : ∀ j a, OwnSl σ (setOuts ln xs outs ρ) j a → OwnSl σ ρ j a := fun j a q => by
    obtain ⟨⟨k, d, e1⟩, e2⟩ := q
    rcases P j _ e1 with ⟨e3, _⟩ | ⟨k', d', b, e3, o, _⟩
    · exact ⟨⟨k, d, e3⟩, e2⟩
    · have := o.2.symm.trans e2
      cases this
      exact o
  refine ⟨⟨by rw [setOuts_len]; exact s.len, fun b o n m t e => ?_, ⟨fun b q e => ?_, tb.at_⟩, s.m0, s.w0, s.lw, s.wl, fun a q => up a (s.mle a q), s.st0.trans st, fun a q => ?_, fun j c e => ?_, fun i j a q1 q2 => s.inj i j a (ov i a q1) (ov j a q2), fun i a q => s.own i a (ov i a q), fun p hp => ?_⟩, st, ov⟩
  · have e1 := s.keep b o n m t e
    refine kp b o (fun z => ?_) (s.mle b m) t e1
    obtain ⟨i, _, q⟩ := lent_of s r h b z
    rcases s.own i b q with w | w
    · exact n w
    · rw [w] at e; cases e
  · obtain ⟨q1, e1⟩ := s.tb.tk b q e
    exact tb.tk b q1 e1
  · rcases nw a q with q | q
    · exact st.al a (s.al a q)
    · exact q
  · rcases P j c e with ⟨e1, n1⟩ | ⟨k, d, a, rfl, o, w⟩
    · obtain ⟨v, e2, q⟩ := s.slot j c e1
      refine ⟨v, e2, ?_⟩
      cases c with
      | val d => exact Rp.step st _ _ q
      | own k d =>
        obtain ⟨a, ea, m, w⟩ := q
        subst ea
        have nl : a ∉ lentA ln vs := fun z => n1 a ⟨⟨k, d, e1⟩, e2⟩ (.inr z)
        refine ⟨a, rfl, up a m, w.step st ?_⟩
        have := w.some
        cases e3 : H a with
        | none => exact absurd e3 this
        | some o => rw [kp a o nl m (fun q z => own_nt w q (by rw [e3, z])) e3]
    · exact ⟨_, o.2, a, rfl, up a (s.ownM o).1, w⟩
  · have o := s.lst p hp
    exact ⟨outs_own ln xs outs ρ p.1 o.1, o.2⟩
end
/-- a def that may be called, by data -/
structure CalD (P : Program) (w : World) (K : PySem.W.Frag) (mg : Str → Option Value) (base : Heap) (tb : List Addr) (k : Nat) (x : Str) (ln : Ln) (fk : Option Kd) (F : List D → Res) : Prop where
  ex : ∃ (f : Addr) (fd : FuncData) (ps : List Str), FnOk P w K mg base CX0 k f fd ps (spF ⟨P, w, K⟩ tb ps.length ln fk F) ∧ mg x = some (.ref f) ∧ PySem.W.keepIn K (.ref f) = true ∧ Binds K fd ps [] ∧ ln.length = ps.length
section
variable {X : Cx} {C : Cs} {k j : Nat} {x : Str} {ln : Ln} {fk : Option Kd} {F : List D → Res} {e : Expr} {es : List Expr} {fr : Env → Rs (List Arg)} {p pos : Pos}
theorem call_run {fk : Option Kd} {n : Nat} (hn : ln.length = n) {Y : Dy} (hls : LsOk C Y) {σ : L2.St} {H : Hp} {M : Addr → Prop} {ρ : Env} {Q : VK} {vs : List V} {xs : List Arg} {R : Env → Hp → (Addr → Prop) → V → D → Prop} (s : SR (gs X) Y σ H M ρ) (r : ARs (gs X) H M σ vs xs)
    (w : Wi (gs X) C Y σ H M R (match argD ρ ln xs with
      | some ds => if (ownIx ln xs).Nodup then match F ds with
          | .ok d outs => .ok d (setOuts ln xs outs ρ)
          | _ => .bad
        else .bad
      | none => .bad) Q)
    (hR : ∀ ρ' H' v d, SR (gs X) Y σ H' (ResM M fk v) ρ' → (∀ j a, OwnSl σ ρ' j a → OwnSl σ ρ j a) → ResOk (gs X) H H' M fk v d → R ρ' H' (ResM M fk v) v d) : spF (gs X) C.TB n ln fk F vs H Q E0 := by
  cases ea : argD ρ ln xs with
  | none => rw [ea] at w; exact w.elim
  | some ds =>
    rw [ea] at w
    have w' : Wi (gs X) C Y σ H M R (if (ownIx ln xs).Nodup then match F ds with
          | .ok d outs => .ok d (setOuts ln xs outs ρ)
          | _ => .bad
        else .bad) Q := w
    split at w'
    · rename_i nd
      have aok := args_of s r ea
      refine ⟨by rw [← aok.lens.1]; exact hn, M, ds, s.al, ⟨fun b q e => ⟨q, e⟩, by rw [← hls.2]; exact s.tb.at_⟩, aok, lent_nd s r ea nd, ?_⟩
      cases ef : F ds with
      | bad => rw [ef] at w'; exact w'
      | exn c o => rw [ef] at w'; exact (show False from w').elim
      | ok d outs =>
        rw [ef] at w'
        intro v H' kp stp tb ou ro
        have up : ∀ b, M b → ResM M fk v b := fun b q => by
          cases fk with
          | none => exact q
          | some k => cases v <;> first | exact q | exact .inl q
        have nw : ∀ b, ResM M fk v b → M b ∨ H' b ≠ none := fun b q => by
          cases fk with
          | none => exact .inl q
          | some k =>
            obtain ⟨a, rfl, h0, ow⟩ := ro
            rcases q with q | q
            · exact .inl q
            · rw [q]; exact .inr ow.some
        obtain ⟨s1, st1, ov⟩ := s.call r ea kp stp ⟨tb.tk, by rw [hls.2]; exact tb.at_⟩ ou up nw
        exact w' v H' _ s1 st1 (hR _ H' v d s1 ov ro)
    · exact w'.elim
theorem de_call (c : CalD X.prog X.w X.K X.mg X.base C.TB k x ln none F) (hr : Room j X.A) (hk : k ≤ j) (hg : Gl X x) (ha : DA X C (e :: es) fr)
    (hdb : (x == ("__debug__" : Str)) = false := by decide) (he : starEach (e :: es) X.env = (false, eval e X.env) :: starEach es X.env := by rfl) (hpl : (backTo pos (starEach es X.env)).any (·.1) = false := by rfl) :
    DE X C (.Call (.Name x p) (e :: es) [] pos) (dCall ln F fr) := by
  obtain ⟨f, fd, ps, Fo, hm, kp, b, hl⟩ := c.ex
  obtain ⟨t, pt, qt⟩ := ha.ex
  refine ⟨_, pe_call Fo (hr.mono hk) hg hm kp b .nil pass0 pt hdb he hpl, fun Y σ H M ρ Q hls s w => ?_⟩
  refine qt Y σ H M ρ _ hls s (Wi.seq w fun xs ρ1 vs H1 M1 s1 st1 r1 w1 => ?_)
  rw [List.append_nil]
  exact call_run hl hls s1 r1 w1 fun ρ' H' v d s2 _ ro => ro
theorem df_call {kd : Kd} (c : CalD X.prog X.w X.K X.mg X.base C.TB k x ln (some kd) F) (hr : Room j X.A) (hk : k ≤ j) (hg : Gl X x) (ha : DA X C (e :: es) fr)
    (hdb : (x == ("__debug__" : Str)) = false := by decide) (he : starEach (e :: es) X.env = (false, eval e X.env) :: starEach es X.env := by rfl) (hpl : (backTo pos (starEach es X.env)).any (·.1) = false := by rfl) :
    DF X C kd (.Call (.Name x p) (e :: es) [] pos) (dCall ln F fr) := by
  obtain ⟨f, fd, ps, Fo, hm, kp, b, hl⟩ := c.ex
  obtain ⟨t, pt, qt⟩ := ha.ex
  refine ⟨_, pe_call Fo (hr.mono hk) hg hm kp b .nil pass0 pt hdb he hpl, fun Y σ H M ρ Q hls s w => ?_⟩
  refine qt Y σ H M ρ _ hls s (Wi.seq w fun xs ρ1 vs H1 M1 s1 st1 r1 w1 => ?_)
  rw [List.append_nil]
  refine call_run hl hls s1 r1 w1 fun ρ' H' v d s2 ov ro => ?_
  obtain ⟨a, rfl, h0, ow⟩ := ro
  exact ⟨a, rfl, .inr rfl, s1.h0none h0, fun i q => (s1.ownM (ov i a q)).2 h0, ow⟩
end
end DL
end

section
set_option Elab.async false
set_option autoImplicit false
set_option linter.all false
set_option maxRecDepth 100000
set_option maxHeartbeats 1000000
/-! DL10: walks of dicts by data; zip. -/
namespace DL
open PySem PySem.Spec PyProof.Rows L2

structure RawD (od : Obj) (es : Array DictEntry) (ep : Nat) (ks vs : List V) : Prop where
  x : od.ExactDict
  d : od.data = .dict es ep
  lk : ks.length = es.size
  lv : vs.length = es.size
  k : ∀ (i : Nat) (h : i < es.size) (v : V), ks[i]? = some v → RelV v es[i].key
  v : ∀ (i : Nat) (h : i < es.size) (v : V), vs[i]? = some v → RelV v es[i].val
inductive ViewD (P : Program) (w : World) (d : Addr) : HO → List V → List V → Prop
  | k (kvs : List (Key × V)) : ViewD P w d (.dK kvs) (kvs.map fun p => kV p.1) (kvs.map (·.2))
  | n (xs : List (NestedKey × Addr × Value)) (vs : List V) : vs.length = xs.length → (∀ (i : Nat) (p : NestedKey × Addr × Value) (v : V), xs[i]? = some p → vs[i]? = some v → RelV v p.2.2) → ViewD P w d (HN P w d xs) (xs.map fun p => V.ref p.2.1) vs
theorem ViewD.nt {P : Program} {w : World} {d : Addr} {u : HO} {ks vs : List V} (h : ViewD P w d u ks vs) : NT u := by
  cases h with
  | k kvs => exact nt_dK
  | n xs vs _ _ => exact nt_HN
theorem ViewD.nsq {P : Program} {w : World} {d : Addr} {u : HO} {ks vs : List V} (h : ViewD P w d u ks vs) : ¬ Sq u := by
  cases h with
  | k kvs => exact fun z => z
  | n xs vs _ _ => exact fun z => z
theorem ViewD.mut {P : Program} {w : World} {d : Addr} {u : HO} {ks vs : List V} (h : ViewD P w d u ks vs) : Mut (some u) := by
  cases h with
  | k kvs => exact True.intro
  | n xs vs _ _ => exact True.intro
section
variable {X : Cx} {pins : List (Addr × Obj)} {σ : L2.St} {H : Hp} {s : Shared} {d : Addr} {od : Obj} {u : HO} {ks vs : List V}
theorem view_raw (I : Inv X pins σ H s) (h : H d = some (.frz od u)) (V : ViewD X.prog X.w d u ks vs) : (d == sysModules) = false ∧ s.heap.get? d = some od ∧ ∃ es ep, RawD od es ep ks vs := by
  cases V with
  | k kvs =>
    obtain ⟨hs, hgd, hx, es, ep, ws, hdt, hsz, kv, hm⟩ := I.frzK h
    obtain ⟨es', hr, hs', he⟩ := hm.raw
    obtain ⟨o', ho', hx', hd'⟩ := hr
    rw [hgd] at ho'
    cases ho'
    obtain ⟨rfl, _⟩ := dict_ep hdt hd'
    have hl : kvs.length = ws.length := Paired.length kv
    refine ⟨hs, hgd, es', ep, hx, hdt, by simp [hsz], by simp [hsz], fun i hi v e => ?_, fun i hi v e => ?_⟩
    · rw [List.getElem?_map] at e
      obtain ⟨p, e1, rfl⟩ := Option.map_eq_some_iff.mp e
      obtain ⟨w, e2, _⟩ := kv_get kv (k := p.1) (v := p.2) e1
      exact keyIs_rel (he i hi p.1 w e2).1
    · rw [List.getElem?_map] at e
      obtain ⟨p, e1, rfl⟩ := Option.map_eq_some_iff.mp e
      obtain ⟨w, e2, r⟩ := kv_get kv (k := p.1) (v := p.2) e1
      rw [(he i hi p.1 w e2).2]
      exact r
  | n xs vs hl hr =>
    obtain ⟨hgd, x⟩ := I.hok d _ h
    obtain ⟨o, es, ep, h1, h2, h3, h4, h5, h6, h7⟩ := hn_ok x
    rw [hgd] at h1
    cases h1
    have el : es.size = xs.length := by
      have := congrArg List.length h4
      simpa using this
    have ee : ∀ (i : Nat) (h : i < es.size) (p : NestedKey × Addr × Value), xs[i]? = some p → es[i].key = .ref p.2.1 ∧ es[i].val = p.2.2 := fun i hi p e => by
      have : es.toList[i]? = some (entryOfKey (nestedKind X.prog X.w) p) := by rw [h4, List.getElem?_map, e]; rfl
      rw [Array.getElem?_toList, Array.getElem?_eq_getElem hi] at this
      have := Option.some.inj this
      rw [this]
      exact ⟨rfl, rfl⟩
    refine ⟨h6, hgd, es, ep, h2, h3, by simp [el], by omega, fun i hi v e => ?_, fun i hi v e => ?_⟩
    · rw [List.getElem?_map] at e
      obtain ⟨p, e1, rfl⟩ := Option.map_eq_some_iff.mp e
      rw [(ee i hi p e1).1]
      rfl
    · have hi' : i < xs.length := by omega
      have e1 : xs[i]? = some xs[i] := List.getElem?_eq_getElem hi'
      rw [(ee i hi _ e1).2]
      exact hr i _ v e1 e
end
/-- the values ls of the locked dict at d, one by one; its pairs -/
def Jl (d : Addr) (od : Obj) (u : HO) (ls : List V) : It := ⟨fun i H => H d = some (.frz od u) ∧ i < ls.length, fun i H x H' => H' = H ∧ ls[i]? = some x, fun i H => H d = some (.frz od u) ∧ ls.length ≤ i⟩
def Ji (d : Addr) (od : Obj) (u : HO) (ks vs : List V) : It := ⟨fun i H => H d = some (.frz od u) ∧ i < ks.length, fun i H x H' => ∃ T k v, ks[i]? = some k ∧ vs[i]? = some v ∧ x = .ref T ∧ H T = none ∧ H' = upd H T (.tup [k, v]), fun i H => H d = some (.frz od u) ∧ ks.length ≤ i⟩
section
variable {P : Program} {w : World} {K : PySem.W.Frag} {tg : Expr} {d : Addr} {od : Obj} {u : HO} {ks vs : List V} {es : Array DictEntry} {ep : Nat}
theorem turnK (it : Addr) (R : RawD od es ep ks vs) : Turn P w K tg (Jl d od u ks) [it] it (fun i h => h.IsKeyIter it d i ks.length ep) where
  mem := by simp
  obj := fun i h st b hb => by
    have e : b = it := by simpa using hb
    subst e
    obtain ⟨oi, e, c, dd⟩ := st
    exact ⟨oi, e, fun v z => by rw [dd] at z; cases z⟩
  keep := fun i h h' st k => st.at fun oi e => k it (by simp) oi e
  item := by
    intro X hP hw hK hc i pins s σ H E I hf st hg
    subst hP hw hK
    obtain ⟨hd, hi⟩ := hg
    obtain ⟨f0, f1, f2, f3, f4, f5⟩ := hf it (by simp)
    have hgd := (I.hok d _ hd).1
    have hi' : i < es.size := by rw [← R.lk]; exact hi
    refine next_key_item st hgd R.d R.lk.symm (Array.getElem?_eq_getElem hi') fun h' st' sb => ?_
    have I1 : Inv X pins σ H { s with heap := h' } := I.turned (t' := s.toks) (fun b ob hb e => (sb.2 b hb).trans e) f0 f1 f3 f4 f5
    obtain ⟨oi, e, c, dd⟩ := id st'
    exact ⟨_, rfl, go_of (s := { s with heap := h' }) e c dd (by decide) ⟨ks[i], H, I1, R.k i hi' _ (List.getElem?_eq_getElem hi), ⟨rfl, List.getElem?_eq_getElem hi⟩, st', fun b hb => (hf b hb).1⟩⟩
  done := by
    intro X hP hw hK hc i pins s σ H E I hf st hg
    subst hP hw hK
    obtain ⟨hd, hi⟩ := hg
    obtain ⟨f0, f1, f2, f3, f4, f5⟩ := hf it (by simp)
    have hgd := (I.hok d _ hd).1
    exact next_key_end (I.ok.hd hc) st hgd R.d R.lk.symm hi fun h' eb => ⟨rfl, I.turned (t' := s.toks) (fun b ob hb e => eb b ob hb e) f0 f1 f3 f4 f5⟩
  self := fun A i s Q E st h => wpAny_pyIter_keyiter st h
theorem turnV (it : Addr) (R : RawD od es ep ks vs) : Turn P w K tg (Jl d od u vs) [it] it (fun i h => h.IsValIter it d i vs.length ep) where
  mem := by simp
  obj := fun i h st b hb => by
    have e : b = it := by simpa using hb
    subst e
    obtain ⟨oi, e, c, dd⟩ := st
    exact ⟨oi, e, fun v z => by rw [dd] at z; cases z⟩
  keep := fun i h h' st k => st.at fun oi e => k it (by simp) oi e
  item := by
    intro X hP hw hK hc i pins s σ H E I hf st hg
    subst hP hw hK
    obtain ⟨hd, hi⟩ := hg
    obtain ⟨f0, f1, f2, f3, f4, f5⟩ := hf it (by simp)
    have hgd := (I.hok d _ hd).1
    have hi' : i < es.size := by rw [← R.lv]; exact hi
    rw [R.lv] at st ⊢
    refine wpAny_pyNext_values_item_raw st ⟨od, hgd, R.x, R.d⟩ hi' fun h' st' sb => ?_
    have I1 : Inv X pins σ H { s with heap := h' } := I.turned (t' := s.toks) (fun b ob hb e => (sb.2 b hb).trans e) f0 f1 f3 f4 f5
    obtain ⟨oi, e, c, dd⟩ := id st'
    exact ⟨_, rfl, go_of (s := { s with heap := h' }) e c dd (by decide) ⟨vs[i], H, I1, R.v i hi' _ (List.getElem?_eq_getElem hi), ⟨rfl, List.getElem?_eq_getElem hi⟩, st', fun b hb => (hf b hb).1⟩⟩
  done := by
    intro X hP hw hK hc i pins s σ H E I hf st hg
    subst hP hw hK
    obtain ⟨hd, hi⟩ := hg
    obtain ⟨f0, f1, f2, f3, f4, f5⟩ := hf it (by simp)
    have hgd := (I.hok d _ hd).1
    rw [R.lv] at st hi
    exact wpAny_pyNext_values_end_raw (I.ok.hd hc) st ⟨od, hgd, R.x, R.d⟩ hi fun h' eb => ⟨rfl, I.turned (t' := s.toks) (fun b ob hb e => eb b ob hb e) f0 f1 f3 f4 f5⟩
  self := fun A i s Q E st h => wpAny_pyIter_valiter st h
theorem turnI {elts : List Expr} {kk : Nat} {tpos : Pos} (it : Addr) (R : RawD od es ep ks vs) : Turn P w K (.Tuple elts kk tpos) (Ji d od u ks vs) [it] it (fun i h => ∃ ok ov, IsItemIter h it d i ks.length ep ok ov) where
  mem := by simp
  obj := fun i h st b hb => by
    have e : b = it := by simpa using hb
    subst e
    obtain ⟨ok, ov, e⟩ := st
    exact ⟨_, e, fun v z => nomatch z⟩
  keep := fun i h h' st k => let ⟨ok, ov, e⟩ := st; ⟨ok, ov, k it (by simp) _ e⟩
  item := by
    intro X hP hw hK hc i pins s σ H E I hf st hg
    subst hP hw hK
    obtain ⟨hd, hi⟩ := hg
    have hgd := (I.hok d _ hd).1
    have hi' : i < es.size := by rw [← R.lk]; exact hi
    have hiv : i < vs.length := by rw [R.lv]; exact hi'
    obtain ⟨ok, ov, he⟩ := st
    rw [R.lk] at he
    have hlt : it < s.heap.objs.size := Heap.lt_size he
    refine wpAny_pyNext_items_item_raw he ⟨od, hgd, R.x, R.d⟩ hi' fun h' ho hT hz hk => ?_
    refine ⟨_, rfl, wpAny_letOwnedTupleGo_items (s := { s with heap := h' }) ho fun h'' he' sb => ?_⟩
    have hT2 : h''.get? s.heap.objs.size = some { cls := .type "tuple", data := .seq #[es[i].key, es[i].val] } := (sb.2 _ (Nat.ne_of_gt hlt)).trans hT
    have new : ObjOk X.prog X.w (upd H s.heap.objs.size (.tup [ks[i], vs[i]])) h'' s.heap.objs.size (.tup [ks[i], vs[i]]) :=
      ⟨by show 2 ≤ sizeLine; decide, [es[i].key, es[i].val], .cons (R.k i hi' _ (List.getElem?_eq_getElem hi)) (.cons (R.v i hi' _ (List.getElem?_eq_getElem hiv)) .nil), ⟨_, hT2, rfl, _, rfl⟩⟩
    have I1 : Inv X pins σ (upd H s.heap.objs.size (.tup [ks[i], vs[i]])) { s with heap := h'' } :=
      I.turnedNew (t' := s.toks) (ch := [it]) (fun b ob hb e => (sb.2 b (by simpa using hb)).trans (hk b ob (by simpa using hb) e)) hf (Nat.le_refl _) new
    refine ⟨.ref s.heap.objs.size, _, I1, rfl, ⟨_, _, _, List.getElem?_eq_getElem hi, List.getElem?_eq_getElem hiv, rfl, I.hok.fresh (Nat.le_refl _), rfl⟩, ⟨es[i].key, es[i].val, ?_⟩, fun b hb => ?_⟩
    · rw [R.lk]; exact he'
    · have e : b = it := by simpa using hb
      rw [e, upd_ne (Nat.ne_of_lt hlt)]
      exact (hf it (by simp)).1
  done := by
    intro X hP hw hK hc i pins s σ H E I hf st hg
    subst hP hw hK
    obtain ⟨hd, hi⟩ := hg
    obtain ⟨f0, f1, f2, f3, f4, f5⟩ := hf it (by simp)
    have hgd := (I.hok d _ hd).1
    obtain ⟨ok, ov, he⟩ := st
    rw [R.lk] at he hi
    exact wpAny_pyNext_items_end_raw (I.ok.hd hc) he ⟨od, hgd, R.x, R.d⟩ hi fun h' eb => ⟨rfl, I.turned (t' := s.toks) (fun b ob hb e => eb b ob hb e) f0 f1 f3 f4 f5⟩
  self := fun A i s Q E st h => let ⟨_, _, e⟩ := st; PySem.W.kcp_self e h
end
/-- the dict at d is locked (it was, or it is now) -/
def Locked (X : Cx) (d : Addr) (u : HO) (H1 : Hp) (k : Obj → Hp → Prop) : Prop := (∃ od, H1 d = some (.frz od u) ∧ k od H1) ∨ (H1 d = some u ∧ ∀ od, k od (upd H1 d (.frz od u)))
def iDk (X : Cx) (td : TE) : TI := fun σ H R => td σ H fun x H1 => ∃ d u ks vs, x = .ref d ∧ ViewD X.prog X.w d u ks vs ∧ Locked X d u H1 fun od H2 => R (Jl d od u ks) H2
def iDv (X : Cx) (td : TE) : TI := fun σ H R => td σ H fun x H1 => ∃ d u ks vs, x = .ref d ∧ ViewD X.prog X.w d u ks vs ∧ Locked X d u H1 fun od H2 => R (Jl d od u vs) H2
def iDi (X : Cx) (td : TE) : TI := fun σ H R => td σ H fun x H1 => ∃ d u ks vs, x = .ref d ∧ ViewD X.prog X.w d u ks vs ∧ Locked X d u H1 fun od H2 => R (Ji d od u ks vs) H2
section
variable {X : Cx} {tg e : Expr} {td : TE} {apos cpos : Pos}
theorem locked {pins : List (Addr × Obj)} {σ : L2.St} {H1 : Hp} {s : Shared} {d : Addr} {u : HO} {ks vs : List V} (I : Inv X pins σ H1 s) (V : ViewD X.prog X.w d u ks vs) {k : Obj → Hp → Prop} (h : Locked X d u H1 k) :
    ∃ od H2, Inv X pins σ H2 s ∧ H2 d = some (.frz od u) ∧ k od H2 := by
  rcases h with ⟨od, e, q⟩ | ⟨e, q⟩
  · exact ⟨od, H1, I, e, q⟩
  · obtain ⟨od, I2⟩ := I.lock e V.mut
    exact ⟨od, _, I2, upd_same, q od⟩
theorem pi_dk (he : PE X e td) : PI X tg e (iDk X td) := by
  refine ⟨fun pins s σ H R I h => ?_⟩
  refine thn (he.run pins s σ H _ I h) fun v s1 ⟨x, H1, I1, rx, d, u, ks, vs, ex, V, q⟩ => ?_
  subst ex
  obtain rfl : v = Value.ref d := rx
  obtain ⟨od, H2, I2, e2, q2⟩ := locked I1 V q
  obtain ⟨hs, hgd, es, ep, RW⟩ := view_raw I2 e2 V
  refine iter_keys hs hgd RW.x RW.d (pi_one (tk := s1.toks) I2 _ (turnK _ RW) ⟨_, Heap.get?_push_size _ rfl, rfl, ?_⟩ q2)
  rw [RW.lk] <;> rfl
theorem pi_dv (he : PE X e td) (hbase : attributeBase e "values" X.env (eval e X.env) = eval e X.env := by rfl) (hline : (apos.endLine == cpos.line) = true := by rfl) : PI X tg (.Call (.Attribute e "values" apos) [] [] cpos) (iDv X td) := by
  refine ⟨fun pins s σ H R I h => ?_⟩
  refine wpAny_Call_method (T := "dict") (id := "dict.values") hbase rfl hline F.plainAttrs_dict F.slot_dict_values F.type_dict_values (thn (he.run pins s σ H _ I h) fun v s1 ⟨x, H1, I1, rx, d, u, ks, vs, ex, V, q⟩ => ?_)
  subst ex
  obtain rfl : v = Value.ref d := rx
  obtain ⟨od, H2, I2, e2, q2⟩ := locked I1 V q
  obtain ⟨hs, hgd, es, ep, RW⟩ := view_raw I2 e2 V
  have hm : s1.heap.DictRaw d es ep := ⟨od, hgd, RW.x, RW.d⟩
  refine ⟨hm.typeIs, fun a ea => by cases ea; exact ⟨od, hgd, RW.x.2.1⟩, ?_⟩
  have I3 : Inv X pins σ H2 { s1 with heap := s1.heap.push { cls := .type "dict_values", data := .fields #[.ref d] } } := I2.kept (t' := s1.toks) fun b ob q => Heap.get?_push_of_some _ q
  have fin : wpAny (model X.prog X.w) X.A (pyIter (.ref s1.heap.objs.size)) (PIE X pins σ tg R) X.xe { s1 with heap := s1.heap.push { cls := .type "dict_values", data := .fields #[.ref d] } } := by
    refine wpAny_pyIter_values_raw (d := d) (ep := ep) ⟨_, Heap.get?_push_size _ rfl, rfl, rfl⟩ ⟨od, Heap.get?_push_of_some _ hgd, RW.x, RW.d⟩ (pi_one (tk := s1.toks) I3 _ (turnV _ RW) ⟨_, Heap.get?_push_size _ rfl, rfl, ?_⟩ q2)
    rw [RW.lv] <;> rfl
  show wpAny _ _ (callWith cpos (.builtin "dict.values") [.ref d] [] []) _ X.xe s1
  exact method_meetsIn F.slot_dict_values F.entry_dict_values rfl (PySem.evalArgs_none ⟨rfl, hm.typeIs, F.args_dict_values_1 _, _, meets_dict_values_raw d hs, ⟨es, ep, hm⟩, fin⟩)
theorem pi_di {elts : List Expr} {kk : Nat} {tpos : Pos} (he : PE X e td) (hbase : attributeBase e "items" X.env (eval e X.env) = eval e X.env := by rfl) (hline : (apos.endLine == cpos.line) = true := by rfl) :
    PI X (.Tuple elts kk tpos) (.Call (.Attribute e "items" apos) [] [] cpos) (iDi X td) := by
  refine ⟨fun pins s σ H R I h => ?_⟩
  refine wpAny_Call_method (T := "dict") (id := "dict.items") hbase rfl hline F.plainAttrs_dict F.slot_dict_items F.type_dict_items (thn (he.run pins s σ H _ I h) fun v s1 ⟨x, H1, I1, rx, d, u, ks, vs, ex, V, q⟩ => ?_)
  subst ex
  obtain rfl : v = Value.ref d := rx
  obtain ⟨od, H2, I2, e2, q2⟩ := locked I1 V q
  obtain ⟨hs, hgd, es, ep, RW⟩ := view_raw I2 e2 V
  have hm : s1.heap.DictRaw d es ep := ⟨od, hgd, RW.x, RW.d⟩
  refine ⟨hm.typeIs, fun a ea => by cases ea; exact ⟨od, hgd, RW.x.2.1⟩, ?_⟩
  have I3 : Inv X pins σ H2 { s1 with heap := s1.heap.push { cls := .type "dict_items", data := .fields #[.ref d] } } := I2.kept (t' := s1.toks) fun b ob q => Heap.get?_push_of_some _ q
  have fin : wpAny (model X.prog X.w) X.A (pyIter (.ref s1.heap.objs.size)) (PIE X pins σ (.Tuple elts kk tpos) R) X.xe { s1 with heap := s1.heap.push { cls := .type "dict_items", data := .fields #[.ref d] } } := by
    refine wpAny_pyIter_items_raw (d := d) (ep := ep) ⟨_, Heap.get?_push_size _ rfl, rfl, rfl⟩ ⟨od, Heap.get?_push_of_some _ hgd, RW.x, RW.d⟩ (pi_one (tk := s1.toks) I3 _ (turnI _ RW) ⟨.none, .none, ?_⟩ q2)
    rw [RW.lk]
    exact Heap.get?_push_size _ rfl
  show wpAny _ _ (callWith cpos (.builtin "dict.items") [.ref d] [] []) _ X.xe s1
  exact method_meetsIn F.slot_dict_items F.entry_dict_items rfl (PySem.evalArgs_none ⟨rfl, hm.typeIs, F.args_dict_items_1 _, _, meets_dict_items_raw d hs, ⟨es, ep, hm⟩, fin⟩)
end
/-! by data -/
section
variable {K : Gs} {H : Hp} {M : Addr → Prop}
theorem RpK.ks : ∀ {kvs : List (Key × V)} {ds : List (D × D)}, RpK K H M kvs ds → RpA K H M (kvs.map fun p => kV p.1) (ds.map (·.1))
  | _, _, .nil => .nil
  | _, _, .cons (k := k) z q r => by
    refine .cons ?_ (RpK.ks r)
    cases k with
    | inl i => exact .int i
    | inr x => exact .str x z
theorem RpK.vs : ∀ {kvs : List (Key × V)} {ds : List (D × D)}, RpK K H M kvs ds → RpA K H M (kvs.map (·.2)) (ds.map (·.2))
  | _, _, .nil => .nil
  | _, _, .cons _ q r => .cons q (RpK.vs r)
theorem RpN.ks : ∀ {xs : List (NestedKey × Addr × Value)} {ds : List (D × D)}, RpN K H M xs ds → RpA K H M (xs.map fun p => V.ref p.2.1) (ds.map (·.1))
  | _, _, .nil => .nil
  | _, _, .cons q1 q2 q3 q4 q5 r => .cons q1 (RpN.ks r)
theorem RpN.vs : ∀ {xs : List (NestedKey × Addr × Value)} {ds : List (D × D)}, RpN K H M xs ds → ∃ vs, RpA K H M vs (ds.map (·.2)) ∧ vs.length = xs.length ∧ ∀ (i : Nat) (p : NestedKey × Addr × Value) (v : V), xs[i]? = some p → vs[i]? = some v → RelV v p.2.2
  | _, _, .nil => ⟨[], .nil, rfl, fun i p v e => by simp at e⟩
  | _, _, .cons (v := v) q1 q2 q3 q4 q5 r => by
    obtain ⟨vs, h1, h2, h3⟩ := RpN.vs r
    refine ⟨v :: vs, .cons q5 h1, congrArg (· + 1) h2, fun i p w e1 e2 => ?_⟩
    cases i with
    | zero =>
      cases (show some _ = some p from e1)
      cases (show some _ = some w from e2)
      exact q4
    | succ i => exact h3 i p w (by simpa using e1) (by simpa using e2)
end

/-- a dict as it is walked -/
theorem dict_view {X : Cx} {H : Hp} {M : Addr → Prop} {v : V} {ds : List (D × D)} (h : Rp (gs X) H M v (.dict ds)) : ∃ (d : Addr) (u : HO) (ks vs : List V), v = .ref d ∧ ¬ M d ∧ Rd H d u ∧ ViewD X.prog X.w d u ks vs ∧ RpA (gs X) H M ks (ds.map (·.1)) ∧ RpA (gs X) H M vs (ds.map (·.2)) := by
  cases h with
  | dK r n z q => exact ⟨_, _, _, _, rfl, n, r, .k _, q.ks, q.vs⟩
  | dN r n q =>
    obtain ⟨vs, h1, h2, h3⟩ := q.vs
    exact ⟨_, _, _, _, rfl, n, r, .n _ vs h2 h3, q.ks, h1⟩
def keysD : D → Option (List D)
  | .dict ds => some (ds.map (·.1))
  | _ => none
def valsD : D → Option (List D)
  | .dict ds => some (ds.map (·.2))
  | _ => none
def pairsD : D → Option (List D)
  | .dict ds => some (ds.map fun p => .tuple [p.1, p.2])
  | _ => none
def dWalk (p : D → Option (List D)) (f : Env → Rs D) : Env → Rs (List D) := fun ρ => (f ρ).bind fun d ρ1 => opt (p d) ρ1
section
variable {X : Cx} {C : Cs} {tg e : Expr} {f : Env → Rs D} {apos cpos : Pos}
theorem iter_l {H : Hp} {M : Addr → Prop} {d : Addr} {od : Obj} {u : HO} {ls : List V} {ds : List D} (e : H d = some (.frz od u)) (n : ¬ M d) (r : RpA (gs X) H M ls ds) : IterOk (gs X) (Jl d od u ls) H M ds := fun H' M' st al i => by
  have e' := st.kl d (.frz od u) n True.intro e
  have r' := r.step st _ _
  refine ⟨fun hi => ⟨e', by rw [r.length]; exact hi⟩, fun z ez => ?_⟩
  obtain ⟨v, e1, q⟩ := r'.get ez
  refine ⟨⟨e', (List.getElem?_eq_some_iff.mp e1).1⟩, fun x H2 y => ?_⟩
  obtain ⟨rfl, y⟩ := y
  rw [e1] at y
  cases y
  exact ⟨Same.refl _, q⟩
theorem iter_i {H : Hp} {M : Addr → Prop} {d : Addr} {od : Obj} {u : HO} {ks vs : List V} {ds : List (D × D)} (e : H d = some (.frz od u)) (n : ¬ M d) (r1 : RpA (gs X) H M ks (ds.map (·.1))) (r2 : RpA (gs X) H M vs (ds.map (·.2))) : IterOk (gs X) (Ji d od u ks vs) H M (ds.map fun p => .tuple [p.1, p.2]) := fun H' M' st al i => by
  have e' := st.kl d (.frz od u) n True.intro e
  have q1 := r1.step st _ _
  have q2 := r2.step st _ _
  have hl := r1.length
  rw [List.length_map] at hl
  refine ⟨fun hi => ⟨e', by rw [hl]; simpa using hi⟩, fun z ez => ?_⟩
  rw [List.getElem?_map] at ez
  obtain ⟨p, ep, rfl⟩ := Option.map_eq_some_iff.mp ez
  obtain ⟨k, e1, t1⟩ := q1.get (i := i) (d := p.1) (by rw [List.getElem?_map, ep]; rfl)
  obtain ⟨v, e2, t2⟩ := q2.get (i := i) (d := p.2) (by rw [List.getElem?_map, ep]; rfl)
  refine ⟨⟨e', (List.getElem?_eq_some_iff.mp e1).1⟩, fun x H2 y => ?_⟩
  obtain ⟨T, k', v', y1, y2, rfl, hT, rfl⟩ := y
  rw [e1] at y1
  rw [e2] at y2
  cases y1
  cases y2
  have st2 : Stp H' M' (upd H' T (.tup [k, v])) M' := .grow (same_upd hT)
  exact ⟨same_upd hT, .tup upd_same (fun m => al T m hT) (by show 2 ≤ sizeLine; decide) (.cons (Rp.step st2 _ _ t1) (.cons (Rp.step st2 _ _ t2) .nil))⟩
theorem walk_run {J : Addr → Obj → HO → List V → List V → It} {p : D → Option (List D)} (hp : ∀ d ls, p d = some ls → ∃ ds, d = .dict ds)
    (hJ : ∀ {H : Hp} {M : Addr → Prop} {d : Addr} {od : Obj} {u : HO} {ks vs : List V} {ds : List (D × D)} {ls : List D}, p (.dict ds) = some ls → H d = some (.frz od u) → ¬ M d → RpA (gs X) H M ks (ds.map (·.1)) → RpA (gs X) H M vs (ds.map (·.2)) → IterOk (gs X) (J d od u ks vs) H M ls)
    {Y : Dy} {σ : L2.St} {H : Hp} {M : Addr → Prop} {ρ : Env} {R : It → Hp → Prop} {t : TE} (qt : ∀ (Y : Dy) (σ : L2.St) (H : Hp) (M : Addr → Prop) (ρ : Env) (Q : VK), LsOk C Y → SR (gs X) Y σ H M ρ → Wi (gs X) C Y σ H M (RD (gs X)) (f ρ) Q → t σ H Q)
    (hl : LsOk C Y) (s : SR (gs X) Y σ H M ρ) (w : Wi (gs X) C Y σ H M (RI (gs X)) (dWalk p f ρ) R) :
    t σ H fun x H1 => ∃ d u ks vs, x = .ref d ∧ ViewD X.prog X.w d u ks vs ∧ Locked X d u H1 fun od H2 => R (J d od u ks vs) H2 := by
  refine qt Y σ H M ρ _ hl s (Wi.seq w fun d ρ1 v H1 M1 s1 st1 r1 w1 => ?_)
  cases ep : p d with
  | none => rw [ep] at w1; exact w1.elim
  | some ls =>
    rw [ep] at w1
    obtain ⟨ds, rfl⟩ := hp d ls ep
    obtain ⟨a, u, ks, vs, rfl, n, rd, V, k1, k2⟩ := dict_view r1
    refine ⟨a, u, ks, vs, rfl, V, ?_⟩
    rcases rd with rd | ⟨od, rd⟩
    · refine .inr ⟨rd, fun od => ?_⟩
      obtain ⟨s2, st2⟩ := s1.lock (od := od) n rd V.nt V.nsq
      exact w1 _ _ M1 s2 st2 (hJ ep upd_same n (k1.step st2 _ _) (k2.step st2 _ _))
    · exact .inl ⟨od, rd, w1 _ _ M1 s1 .refl (hJ ep rd n k1 k2)⟩
theorem di_keys (h : DE X C e f) : DI X C tg e (dWalk keysD f) := by
  obtain ⟨t, pt, qt⟩ := h.ex
  refine ⟨_, pi_dk pt, fun Y σ H M ρ R hl s w => walk_run (J := fun d od u ks vs => Jl d od u ks) (fun d ls e => ?_) (fun e a n k1 k2 => ?_) qt hl s w⟩
  · cases d <;> cases e; exact ⟨_, rfl⟩
  · cases e; exact iter_l a n k1
theorem di_vals (h : DE X C e f) (hbase : attributeBase e "values" X.env (eval e X.env) = eval e X.env := by rfl) (hline : (apos.endLine == cpos.line) = true := by rfl) : DI X C tg (.Call (.Attribute e "values" apos) [] [] cpos) (dWalk valsD f) := by
  obtain ⟨t, pt, qt⟩ := h.ex
  refine ⟨_, pi_dv pt hbase hline, fun Y σ H M ρ R hl s w => walk_run (J := fun d od u ks vs => Jl d od u vs) (fun d ls e => ?_) (fun e a n k1 k2 => ?_) qt hl s w⟩
  · cases d <;> cases e; exact ⟨_, rfl⟩
  · cases e; exact iter_l a n k2
theorem di_items {elts : List Expr} {kk : Nat} {tpos : Pos} (h : DE X C e f) (hbase : attributeBase e "items" X.env (eval e X.env) = eval e X.env := by rfl) (hline : (apos.endLine == cpos.line) = true := by rfl) : DI X C (.Tuple elts kk tpos) (.Call (.Attribute e "items" apos) [] [] cpos) (dWalk pairsD f) := by
  obtain ⟨t, pt, qt⟩ := h.ex
  refine ⟨_, pi_di pt hbase hline, fun Y σ H M ρ R hl s w => walk_run (J := fun d od u ks vs => Ji d od u ks vs) (fun d ls e => ?_) (fun e a n k1 k2 => ?_) qt hl s w⟩
  · cases d <;> cases e; exact ⟨_, rfl⟩
  · cases e; exact iter_i a n k1 k2
/-! zip of two lists, of two tuples -/
def zipD : List D → List D → List D
  | a :: as, b :: bs => .tuple [a, b] :: zipD as bs
  | _, _ => []
theorem zipD_get : ∀ (as bs : List D) (i : Nat) (z : D), (zipD as bs)[i]? = some z → ∃ a b, as[i]? = some a ∧ bs[i]? = some b ∧ z = .tuple [a, b]
  | [], _, i, z, h => by simp [zipD] at h
  | _ :: _, [], i, z, h => by simp [zipD] at h
  | a :: as, b :: bs, 0, z, h => ⟨a, b, rfl, rfl, (Option.some.inj h).symm⟩
  | a :: as, b :: bs, i + 1, z, h => by
    obtain ⟨x, y, h1, h2, h3⟩ := zipD_get as bs i z (by simpa [zipD] using h)
    exact ⟨x, y, by simpa using h1, by simpa using h2, h3⟩
theorem zipD_len : ∀ as bs : List D, (zipD as bs).length = min as.length bs.length
  | [], _ => by simp [zipD]
  | _ :: _, [] => by simp [zipD]
  | a :: as, b :: bs => by simp [zipD, zipD_len as bs, Nat.succ_min_succ]
def gZip : List D → Option (List D)
  | [.list as, .list bs] => some (zipD as bs)
  | [.tuple as, .tuple bs] => some (zipD as bs)
  | _ => none
def dZip (fr : Env → Rs (List Arg)) : Env → Rs (List D) := fun ρ => (fr ρ).bind fun xs ρ1 => opt ((immAll xs).bind gZip) ρ1
theorem iter_zip {a b : Addr} {J : It} {H : Hp} {M : Addr → Prop} {us vs : List V} {as bs : List D} {L : Hp → Addr → List V → Prop}
    (hJ : ∀ i H, J.go i H = (∃ (xs ys : List V) (x y : V), L H a xs ∧ L H b ys ∧ xs[i]? = some x ∧ ys[i]? = some y) ∧ J.stop i H = (∃ xs ys : List V, L H a xs ∧ L H b ys ∧ (xs.length ≤ i ∨ ys.length ≤ i)) ∧ ∀ v H', J.yld i H v H' = (∃ T x y, v = .ref T ∧ H T = none ∧ H' = upd H T (.tup [x, y]) ∧ (∀ xs, L H a xs → xs[i]? = some x) ∧ ∀ ys, L H b ys → ys[i]? = some y))
    (ka : ∀ H' M', Stp H M H' M' → L H' a us) (kb : ∀ H' M', Stp H M H' M' → L H' b vs) (ra : RpA (gs X) H M us as) (rb : RpA (gs X) H M vs bs) : IterOk (gs X) J H M (zipD as bs) := fun H' M' st al i => by
  have la := ka _ _ st
  have lb := kb _ _ st
  obtain ⟨hgo, hstop, hy⟩ := hJ i H'
  have qa := ra.step st _ _
  have qb := rb.step st _ _
  refine ⟨fun hi => ?_, fun z ez => ?_⟩
  · rw [hstop]
    refine ⟨us, vs, la, lb, ?_⟩
    rw [zipD_len] at hi
    rw [ra.length, rb.length]
    omega
  · obtain ⟨x, y, e1, e2, rfl⟩ := zipD_get _ _ _ _ ez
    obtain ⟨p, e3, t1⟩ := qa.get e1
    obtain ⟨q, e4, t2⟩ := qb.get e2
    refine ⟨by rw [hgo]; exact ⟨us, vs, p, q, la, lb, e3, e4⟩, fun v H2 hv => ?_⟩
    rw [hy] at hv
    obtain ⟨T, x', y', rfl, hT, rfl, f1, f2⟩ := hv
    have e5 := (f1 us la).symm.trans e3
    have e6 := (f2 vs lb).symm.trans e4
    cases e5
    cases e6
    have st2 : Stp H' M' (upd H' T (.tup [p, q])) M' := .grow (same_upd hT)
    exact ⟨same_upd hT, .tup upd_same (fun m => al T m hT) (by show 2 ≤ sizeLine; decide) (.cons (Rp.step st2 _ _ t1) (.cons (Rp.step st2 _ _ t2) .nil))⟩
theorem Rp.tupK {K : Gs} {H : Hp} {M : Addr → Prop} {v : V} {ds : List D} (h : Rp K H M v (.tuple ds)) : ∃ a xs, v = .ref a ∧ SqT K.K H a xs ∧ xs.length ≤ sizeLine ∧ RpA K H M xs ds ∧ ∀ H' M', Stp H M H' M' → SqT K.K H' a xs := by
  cases h with
  | tup r n z q => exact ⟨_, _, rfl, .inl (.inl r), z, q, fun H' M' st => .inl (.inl (st.kl _ (.tup _) n True.intro r))⟩
  | tupC c q => exact ⟨_, _, rfl, c.sq, c.len, q, fun H' M' st => c.sq⟩
theorem di_zip {a b : Expr} {p pos tpos : Pos} {elts : List Expr} {kk : Nat} {fr : Env → Rs (List Arg)} (hg : Gl X "zip") (hm : X.mg "zip" = none) (ha : DA X C [a, b] fr)
    (hs : starEach [a, b] X.env = (false, eval a X.env) :: starEach [b] X.env := by rfl) (hpl : (backTo pos (starEach [b] X.env)).any (·.1) = false := by rfl) : DI X C (.Tuple elts kk tpos) (.Call (.Name "zip" p) [a, b] [] pos) (dZip fr) := by
  obtain ⟨t, pt, qt⟩ := ha.ex
  refine ⟨_, RZ.pi_zipA hg hm pt hs hpl, fun Y σ H M ρ R hl s w => ?_⟩
  refine qt Y σ H M ρ _ hl s (Wi.seq w fun xs ρ1 vs H1 M1 s1 st1 r1 w1 => ?_)
  cases ez : (immAll xs).bind gZip with
  | none => rw [ez] at w1; exact w1.elim
  | some z =>
    rw [ez] at w1
    obtain ⟨ds, e1, e2⟩ := bind_some ez
    have r2 := r1.imm e1
    unfold gZip at e2
    split at e2
    · rename_i as bs
      cases e2
      cases r2 with
      | cons q1 r3 => cases r3 with
        | cons q2 r4 =>
          cases r4
          obtain ⟨a, us, rfl, sa, za, ra, ka⟩ := q1.lstK
          obtain ⟨b, vs, rfl, sb, zb, rb, kb⟩ := q2.lstK
          refine ⟨_, _, _, _, rfl, .inl ⟨sa, sb, w1 _ H1 M1 s1 .refl ?_⟩⟩
          exact iter_zip (X := X) (L := fun H a xs => SqL X.K H a xs) (fun i H => ⟨rfl, rfl, fun _ _ => rfl⟩) ka kb ra rb
    · rename_i as bs
      cases e2
      cases r2 with
      | cons q1 r3 => cases r3 with
        | cons q2 r4 =>
          cases r4
          obtain ⟨a, us, rfl, sa, za, ra, ka⟩ := q1.tupK
          obtain ⟨b, vs, rfl, sb, zb, rb, kb⟩ := q2.tupK
          refine ⟨_, _, _, _, rfl, .inr ⟨sa, sb, w1 _ H1 M1 s1 .refl ?_⟩⟩
          exact iter_zip (X := X) (L := fun H a xs => SqT X.K H a xs) (fun i H => ⟨rfl, rfl, fun _ _ => rfl⟩) ka kb ra rb
    · cases e2
end
end DL
end

section
set_option Elab.async false
set_option autoImplicit false
set_option linter.all false
set_option maxRecDepth 100000
set_option maxHeartbeats 1000000
/-! DL11: slices, sorted, list(dict), dict(list) by data. -/
namespace DL
open PySem PySem.Spec PyProof.Rows L2

/-! ### slices -/
structure DO (X : Cx) (C : Cs) (e : Option Expr) (f : Env → Rs (Option Int)) : Prop where
  ex : ∃ t, PO X e t ∧ ∀ (Y : Dy) (σ : L2.St) (H : Hp) (M : Addr → Prop) (ρ : Env) (Q : Option Int → Hp → Prop), LsOk C Y → SR (gs X) Y σ H M ρ → Wi (gs X) C Y σ H M (fun _ _ _ b x => b = x) (f ρ) Q → t σ H Q
def dNoP : Env → Rs (Option Int) := fun ρ => .ok none ρ
def intD : D → Option Int
  | .int i => some i
  | _ => none
def dPart (f : Env → Rs D) : Env → Rs (Option Int) := fun ρ => (f ρ).bind fun d ρ1 => match intD d with
  | some i => .ok (some i) ρ1
  | none => .bad
def cutA {α : Type} (xs : List α) (lo hi : Option Int) : List α := (xs.drop (HT.sIx xs.length 0 lo)).take (HT.sIx xs.length xs.length hi - HT.sIx xs.length 0 lo)
theorem RpA.cut {K : Gs} {H : Hp} {M : Addr → Prop} {vs : List V} {ds : List D} (r : RpA K H M vs ds) (lo hi : Option Int) : RpA K H M (cutV vs lo hi) (cutA ds lo hi) := by
  unfold cutV cutA
  rw [r.length]
  exact (r.drop _).take _
def dSlL (f : Env → Rs Arg) (lo hi : Env → Rs (Option Int)) : Env → Rs D := fun ρ => (f ρ).bind fun x ρ1 => (lo ρ1).bind fun l ρ2 => (hi ρ2).bind fun h ρ3 => match x.get ρ3 with
  | some (.list ds) => .ok (.list (cutA ds l h)) ρ3
  | _ => .bad
def dSlS (f : Env → Rs D) (lo hi : Env → Rs (Option Int)) : Env → Rs D := fun ρ => (f ρ).bind fun x ρ1 => (lo ρ1).bind fun l ρ2 => (hi ρ2).bind fun h ρ3 => match x with
  | .str z => .ok (.str (cutS z l h)) ρ3
  | _ => .bad
section
variable {X : Cx} {C : Cs} {e : Expr} {lo hi : Option Expr} {f : Env → Rs D} {fa : Env → Rs Arg} {fl fh : Env → Rs (Option Int)} {p2 pos : Pos}
theorem do_none : DO X C none dNoP := ⟨_, po_none, fun Y σ H M ρ Q hl s w => w none H M s .refl rfl⟩
theorem do_some (h : DE X C e f) : DO X C (some e) (dPart f) := by
  obtain ⟨t, pt, qt⟩ := h.ex
  refine ⟨_, po_some pt, fun Y σ H M ρ Q hl s w => ?_⟩
  refine qt Y σ H M ρ _ hl s (Wi.seq w fun d ρ1 v H1 M1 s1 st1 r1 w1 => ?_)
  cases d with
  | int i => cases r1; exact ⟨i, rfl, w1 _ H1 M1 s1 .refl rfl⟩
  | _ => exact (show False from w1).elim
theorem df_slL (h : DV X C e fa) (h1 : DO X C lo fl) (h2 : DO X C hi fh) : DF X C .lst (.Subscript e (.Slice lo hi none p2) pos) (dSlL fa fl fh) := by
  obtain ⟨t, pt, qt⟩ := h.ex
  obtain ⟨u, pu, qu⟩ := h1.ex
  obtain ⟨z, pz, qz⟩ := h2.ex
  refine ⟨_, pe_slice sl_list pt pu pz, fun Y σ H M ρ Q hl s w => ?_⟩
  refine qt Y σ H M ρ _ hl s (Wi.seq w fun x ρ1 v H1 M1 s1 st1 r1 w1 => ?_)
  refine qu Y σ H1 M1 ρ1 _ hl s1 (Wi.seq w1 fun l ρ2 l' H2 M2 s2 st2 r2 w2 => ?_)
  refine qz Y σ H2 M2 ρ2 _ hl s2 (Wi.seq w2 fun h ρ3 h' H3 M3 s3 st3 r3 w3 => ?_)
  have el : l' = l := r2
  have eh : h' = h := r3
  subst el eh
  cases eg : x.get ρ3 with
  | none => rw [eg] at w3; exact w3.elim
  | some d =>
    rw [eg] at w3
    cases d with
    | list ds =>
      obtain ⟨a, xs, rfl, ea, hz, ra⟩ := ((r1.step (st2.trans st3)).rv s3 eg).seqL
      refine ⟨a, xs, rfl, ea, fun p hp => ?_⟩
      refine w3 _ _ (Mp M3 p) (s3.more hp) (.more hp) ⟨p, rfl, .inr rfl, s3.h0none hp, fun i q => (s3.ownM q).2 hp, _, _, rfl, upd_same, ?_, (ra.cut l' h').step (.more hp) _ _⟩
      exact Nat.le_trans (cutV_length xs l' h') hz
    | _ => exact (show False from w3).elim
theorem de_slS (h : DE X C e f) (h1 : DO X C lo fl) (h2 : DO X C hi fh) : DE X C (.Subscript e (.Slice lo hi none p2) pos) (dSlS f fl fh) := by
  obtain ⟨t, pt, qt⟩ := h.ex
  obtain ⟨u, pu, qu⟩ := h1.ex
  obtain ⟨z, pz, qz⟩ := h2.ex
  refine ⟨_, pe_slice sl_str pt pu pz, fun Y σ H M ρ Q hl s w => ?_⟩
  refine qt Y σ H M ρ _ hl s (Wi.seq w fun x ρ1 v H1 M1 s1 st1 r1 w1 => ?_)
  refine qu Y σ H1 M1 ρ1 _ hl s1 (Wi.seq w1 fun l ρ2 l' H2 M2 s2 st2 r2 w2 => ?_)
  refine qz Y σ H2 M2 ρ2 _ hl s2 (Wi.seq w2 fun h ρ3 h' H3 M3 s3 st3 r3 w3 => ?_)
  have el : l' = l := r2
  have eh : h' = h := r3
  subst el eh
  cases x with
  | str y =>
    cases r1 with
    | str _ hz => exact ⟨y, rfl, hz, w3 _ H3 M3 s3 .refl (.str _ (Nat.le_trans (cutS_length _ _ _) hz))⟩
  | _ => exact (show False from w3).elim
end
/-! ### sorted -/
def strsOf : List D → Option (List Str)
  | [] => some []
  | .str i :: ds => (strsOf ds).map fun is => i :: is
  | _ :: _ => none
theorem strsOf_some : ∀ {ds : List D} {ns : List Str}, strsOf ds = some ns → ds = ns.map PyData.str
  | [], _, h => by cases h; rfl
  | .str i :: ds, ns, h => by
    obtain ⟨is, e, rfl⟩ := Option.map_eq_some_iff.mp h
    rw [strsOf_some e] <;> rfl
  | .none :: _, _, h => by cases h
  | .bool _ :: _, _, h => by cases h
  | .int _ :: _, _, h => by cases h
  | .list _ :: _, _, h => by cases h
  | .tuple _ :: _, _, h => by cases h
  | .dict _ :: _, _, h => by cases h
def leS (a b : Str) : Bool := !ltCps b.cps.toList a.cps.toList
theorem leS_iff (a b : Str) : leS a b = true ↔ a.cps.toList ≤ b.cps.toList := by
  unfold leS
  rw [PyProof.Rows.ltCps_eq]
  simp
theorem leS_trans (a b c : Str) (h1 : leS a b = true) (h2 : leS b c = true) : leS a c = true := by
  rw [leS_iff] at *
  exact List.le_trans h1 h2
theorem leS_total (a b : Str) : (leS a b || leS b a) = true := by
  rw [Bool.or_eq_true, leS_iff, leS_iff]
  exact List.le_total _ _
theorem leS_anti (a b : Str) (h1 : leS a b = true) (h2 : leS b a = true) : a = b := by
  rw [leS_iff] at *
  have e := List.le_antisymm h1 h2
  cases a with
  | mk ca =>
    cases b with
    | mk cb =>
      have e' : ca.toList = cb.toList := e
      rw [Array.toList_inj.mp e']
theorem sortedS_pw : ∀ l : List Str, sortedS l = true → l.Pairwise (fun a b => leS a b = true)
  | [], _ => .nil
  | [_], _ => List.pairwise_singleton _ _
  | x :: y :: r, h => by
    have h' : (leS x y && sortedS (y :: r)) = true := h
    rw [Bool.and_eq_true] at h'
    have ih := sortedS_pw (y :: r) h'.2
    refine List.pairwise_cons.mpr ⟨fun z hz => ?_, ih⟩
    rcases List.mem_cons.mp hz with e | hz
    · rw [e]; exact h'.1
    · exact leS_trans _ _ _ h'.1 ((List.pairwise_cons.mp ih).1 z hz)
def sortS (xs : List Str) : List Str := xs.mergeSort leS
theorem sortS_uniq {xs ys : List Str} (h1 : ys.Perm xs) (h2 : sortedS ys = true) : ys = sortS xs :=
  List.Perm.eq_of_pairwise (fun a b _ _ => leS_anti a b) (sortedS_pw _ h2) (List.pairwise_mergeSort leS_trans leS_total xs) (h1.trans (List.mergeSort_perm xs leS).symm)
def sortI (xs : List Int) : List Int := xs.mergeSort fun a b => decide (a ≤ b)
theorem sortI_uniq {xs ys : List Int} (h1 : ys.Perm xs) (h2 : ys.Pairwise (· ≤ ·)) : ys = sortI xs := by
  refine List.Perm.eq_of_pairwise (le := fun a b => decide (a ≤ b) = true) (fun a b _ _ p q => ?_) (h2.imp fun p => by simpa using p) (List.pairwise_mergeSort (fun a b c p q => ?_) (fun a b => ?_) xs) (h1.trans (List.mergeSort_perm xs _).symm)
  · simp at p q; omega
  · simp at *; omega
  · simp; omega
def gSorted : List D → Option D
  | [.list ds] => if ds.length < 64 then match intsOf ds with
      | some ns => some (.list ((sortI ns).map .int))
      | none => match strsOf ds with
        | some xs => some (.list ((sortS xs).map .str))
        | none => none
    else none
  | _ => none
def rSortedA (K : PySem.W.Frag) : List V → Hp → VK → Prop := fun vs H Q => rSorted K vs H Q ∨ rSortedS K vs H Q
theorem cr_sortedA {X : Cx} : CallR X (.builtin "sorted") (rSortedA X.K) := by
  intro pins s σ H vs us Q I r h
  rcases h with h | h
  · exact cr_sorted pins s σ H vs us Q I r h
  · exact cr_sortedS pins s σ H vs us Q I r h
theorem RpA.strLen {K : Gs} {H : Hp} {M : Addr → Prop} : ∀ {vs : List V} {xs : List Str}, RpA K H M vs (xs.map PyData.str) → ∀ x ∈ xs, x.length ≤ sizeLine
  | _, [], _, x, h => nomatch h
  | _, y :: xs, r, x, h => by
    cases r with
    | cons q r =>
      rcases List.mem_cons.mp h with e | h
      · cases q with
        | str _ z => rw [e]; exact z
      · exact RpA.strLen r x h
theorem cf_sorted {X : Cx} : CallF X .lst (rSortedA X.K) gSorted := by
  intro H M vs ds z Q al h hg q
  unfold gSorted at hg
  split at hg
  · rename_i ds
    split at hg
    · rename_i h64
      obtain ⟨v, rfl, r⟩ := h.one
      obtain ⟨a, ws, rfl, ea, hz, ra⟩ := r.seqL
      split at hg
      · rename_i ns en
        cases hg
        rw [intsOf_some en] at ra h64
        rw [RpA.ints ra] at ea
        refine .inl ⟨a, ns, rfl, ea, by simpa using h64, fun ns' p h1 h2 hp => ?_⟩
        rw [sortI_uniq h1 h2]
        refine q p _ hp ⟨_, _, rfl, upd_same, ?_, .ofInts _⟩
        rw [List.length_map, show (sortI ns).length = ns.length from (List.mergeSort_perm ns _).length_eq, sizeLine_eq]
        simp at h64; omega
      · split at hg
        · rename_i xs en
          cases hg
          rw [strsOf_some en] at ra h64
          have sl := ra.strLen
          rw [RpA.strs ra] at ea
          refine .inr ⟨a, xs, rfl, ea, by simpa using h64, fun ns' p h1 h2 hp => ?_⟩
          rw [sortS_uniq h1 h2]
          refine q p _ hp ⟨_, _, rfl, upd_same, ?_, .ofStrs _ fun x hx => sl x ((List.mergeSort_perm xs leS).mem_iff.mp hx)⟩
          rw [List.length_map, show (sortS xs).length = xs.length from (List.mergeSort_perm xs _).length_eq, sizeLine_eq]
          simp at h64; omega
        · cases hg
    · cases hg
  · cases hg
/-! ### list(d), list(d.items()) -/
def gListD : List D → Option D
  | [.dict ds] => some (.list (ds.map (·.1)))
  | _ => none
/-- list of a dict's keys, however it stands -/
def rListV (X : Cx) : List V → Hp → VK → Prop := fun xs H Q => ∃ d u ks vs, xs = [.ref d] ∧ ViewD X.prog X.w d u ks vs ∧ Rd H d u ∧ ∀ q, H q = none → ks.length ≤ sizeLine → Q (.ref q) (upd H q (.lst ks))
theorem view_rd {X : Cx} {pins : List (Addr × Obj)} {σ : L2.St} {H : Hp} {s : Shared} {d : Addr} {u : HO} {ks vs : List V} (I : Inv X pins σ H s) (h : Rd H d u) (V : ViewD X.prog X.w d u ks vs) : (d == sysModules) = false ∧ ∃ od es ep, s.heap.get? d = some od ∧ RawD od es ep ks vs := by
  rcases h with h | ⟨od, h⟩
  · obtain ⟨od, I2⟩ := I.lock h V.mut
    obtain ⟨hs, hg, es, ep, R⟩ := view_raw I2 upd_same V
    exact ⟨hs, od, es, ep, hg, R⟩
  · obtain ⟨hs, hg, es, ep, R⟩ := view_raw I h V
    exact ⟨hs, od, es, ep, hg, R⟩
theorem cr_listV {X : Cx} (hc : X.calm = true) : CallR X (.type "list") (rListV X) := by
  intro pins s σ H xs us Q I r h
  obtain ⟨d, u, ks, vs, rfl, V, hd, q⟩ := h
  obtain ⟨z, rfl, rx⟩ := r.one
  obtain rfl : z = Value.ref d := rx
  obtain ⟨hs, od, es, ep, hg, R⟩ := view_rd I hd V
  have hz : ks.length ≤ sizeLine := by
    cases V with
    | k kvs =>
      obtain ⟨z, _⟩ := dk_rd I.hok hd
      rw [List.length_map]; exact z
    | n xs vs _ _ =>
      obtain ⟨o, es, ep, h1, h2, h3, h4, h5, h6, h7⟩ := hn_ok (hd.ok I.hok)
      rw [List.length_map]; exact h7
  refine PySem.W.kdl_call (kdl_raw hs R.x R.d) (I.ok.hd hc) hg (by rw [← R.lk]; exact hz) fun h' tk acc' c' kp e it => ?_
  have rv : Vals ks acc'.toList := by
    refine vals_of_at (by have h1 := it.1; have h2 := R.lk; simp; omega) fun j x w h1 h2 => ?_
    obtain ⟨en, e1, e2⟩ := it.2 j w (by rw [← Array.getElem?_toList]; exact h2)
    obtain ⟨hj, e3⟩ := Array.getElem?_eq_some_iff.mp e1
    rw [e2, ← e3]
    exact R.k j hj x h1
  exact ⟨.ref s.heap.objs.size, _, I.laid (t' := tk) (o := .lst ks) kp (Nat.le_refl _) ⟨hz, acc'.toList, c', rv, by rw [Array.toArray_toList]; exact e⟩, rfl, q _ (I.hok.fresh (Nat.le_refl _)) hz⟩
theorem cf_listD {X : Cx} : CallF X .lst (rListV X) gListD := by
  intro H M vs ds z Q al h hg q
  unfold gListD at hg
  split at hg
  · cases hg
    obtain ⟨v, rfl, r⟩ := h.one
    obtain ⟨a, ea, hx⟩ := r.dct
    subst ea
    rcases hx with ⟨kvs, rd, hz, rk⟩ | ⟨xs, rd, rn⟩
    · exact ⟨a, _, _, _, rfl, .k kvs, rd, fun l hl hk => q _ _ hl ⟨_, _, rfl, upd_same, hk, rk.ks.step (.more hl) _ _⟩⟩
    · obtain ⟨ws, h1, h2, h3⟩ := rn.vs
      refine ⟨a, _, _, ws, rfl, .n xs ws h2 h3, rd, fun l hl hk => q _ _ hl ⟨_, _, rfl, upd_same, hk, rn.ks.step (.more hl) _ _⟩⟩
  · cases hg

def rItemsR (X : Cx) : V → Hp → VK → Prop := fun x H Q => ∃ (d : Addr) (kvs : List (Key × V)), x = .ref d ∧ (Rd H d (.dK kvs) ∨ kvs = [] ∧ Rd H d (HN X.prog X.w d [])) ∧
  ∀ (H' : Hp) (p : Addr) (ts : List Addr), (∀ b o, H b = some o → H' b = some o) → H p = none → (∀ t ∈ ts, H t = none) → p ∉ ts → H' p = some (.lst (ts.map V.ref)) → Paired (fun (t : Addr) (q : Key × V) => H' t = some (.tup [kV q.1, q.2])) ts kvs → Q (.ref p) H'
section
variable {X : Cx} {C : Cs} {e : Expr} {te : TE} {f : Env → Rs D} {p apos cpos pos : Pos}
theorem pe_listItemsR (hc : X.calm = true) (he : PE X e te) (hg : Gl X "list") (hm : X.mg "list" = none) (hv : bootBuiltins "list" = some (.type "list")) (hbase : attributeBase e "items" X.env (eval e X.env) = eval e X.env := by rfl) (hline : (apos.endLine == cpos.line) = true := by rfl)
    (hs : starEach [.Call (.Attribute e "items" apos) [] [] cpos] X.env = (false, eval (.Call (.Attribute e "items" apos) [] [] cpos) X.env) :: starEach [] X.env := by rfl) :
    PE X (.Call (.Name "list" p) [.Call (.Attribute e "items" apos) [] [] cpos] [] pos) (fun σ H Q => te σ H fun x H1 => rItemsR X x H1 Q) := by
  refine ⟨fun pins s σ H Q I hq => ?_⟩
  refine wpAny_Call_Name_kw (ld_blt I hg hm hv ?_)
  refine PyProof.Rows.callWith_type1 ?_ hs rfl
  rw [hs]
  show wpAny _ _ (spliced ((false, eval (.Call (.Attribute e "items" apos) [] [] cpos) X.env) :: backTo pos (starEach [] X.env))) _ _ s
  refine Calls.spliced_cons ?_
  refine wpAny_Call_method (T := "dict") (id := "dict.items") hbase rfl hline F.plainAttrs_dict F.slot_dict_items F.type_dict_items (thn (he.run pins s σ H _ I hq) fun u s1 ⟨x, H1, I1, rx, d, kvs, ex, hd, q⟩ => ?_)
  subst ex
  obtain rfl : u = Value.ref d := rx
  have hd' : kvs.length ≤ sizeLine ∧ (d == sysModules) = false ∧ ∃ vs, KV kvs vs ∧ s1.heap.DictOf (mixKind X.prog X.w) d vs := by
    rcases hd with hd | ⟨rfl, hd⟩
    · exact dk_rd I1.hok hd
    · obtain ⟨h1, h2⟩ := dn_nilK I1 hd
      exact ⟨Nat.zero_le _, h2, [], .nil, h1⟩
  obtain ⟨hz, hs0, vs, kv, hdo⟩ := hd'
  obtain ⟨ep, hat⟩ := hdo.dictAt
  have lk : kvs.length = vs.length := Paired.length kv
  have I2 : Inv X pins σ H1 { s1 with heap := s1.heap.push { cls := .type "dict_items", data := .fields #[.ref d] } } := I1.kept (t' := s1.toks) fun b ob q => Heap.get?_push_of_some _ q
  refine ⟨hdo.typeIs, hdo.mapOf.noDict, ?_⟩
  show wpAny _ _ (callWith cpos (.builtin "dict.items") [.ref d] [] []) _ X.xe s1
  refine method_meetsIn F.slot_dict_items F.entry_dict_items rfl (PySem.evalArgs_none ⟨rfl, hdo.typeIs, F.args_dict_items_1 _, _, meets_dict_items (mixKind X.prog X.w) d hs0, ⟨vs, hdo⟩, ?_⟩)
  refine Calls.spliced_nil ?_
  refine PySem.W.kdx_call (knd := mixKind X.prog X.w) (kvs := vs) (ep := ep) (I1.ok.hd hc) ⟨_, Heap.get?_push_size _ rfl, rfl, rfl⟩ (hat.push _) (by omega) fun h' tk acc c as hk hS hl hG hacc => ?_
  obtain ⟨H', k1, k2, k3, k4, k5, k6, J⟩ := LiI.items_laid (tk := tk) I2 hz kv hk hS hl hG hacc
  exact ⟨.ref _, H', J, rfl, q H' _ as k1 k2 k3 k4 k5 k6⟩
theorem SR.plus {K : Gs} {Y : Dy} {σ : L2.St} {H H' : Hp} {M : Addr → Prop} {ρ : Env} {p : Addr} {o : HO} (s : SR K Y σ H M ρ) (g : Same H H') (h : H p = none) (h' : H' p = some o) : SR K Y σ H' (Mp M p) ρ ∧ Stp H M H' (Mp M p) := by
  have g2 : Same (upd H p o) H' := fun b x e => by
    by_cases hb : b = p
    · rw [hb, upd_same] at e; rw [hb, h']; exact e
    · rw [upd_ne hb] at e; exact g b x e
  exact ⟨(s.more h).grow g2, (Stp.more h).trans (.grow g2)⟩
/-- the items of a dict whose keys are plain -/
def plD : D → Option (List D)
  | .dict ds => if ds.all (fun p => plainK p.1) = true then some (ds.map fun p => .tuple [p.1, p.2]) else none
  | _ => none
def dItemsL (f : Env → Rs D) : Env → Rs D := fun ρ => (f ρ).bind fun d ρ1 => match plD d with
  | some ls => .ok (.list ls) ρ1
  | none => .bad
theorem items_rp {K : Gs} {H' : Hp} {M' : Addr → Prop} : ∀ {ts : List Addr} {kvs : List (Key × V)} {ds : List (D × D)}, Paired (fun (t : Addr) (q : Key × V) => H' t = some (.tup [kV q.1, q.2])) ts kvs → RpK K H' M' kvs ds → (∀ t ∈ ts, ¬ M' t) → RpA K H' M' (ts.map V.ref) (ds.map fun p => .tuple [p.1, p.2])
  | _, _, _, .nil, r, _ => by cases r; exact .nil
  | _, _, _, .cons h t, r, off => by
    cases r with
    | cons kz q r =>
      rename_i k v d ds'
      refine .cons (.tup h (off _ List.mem_cons_self) (by show 2 ≤ sizeLine; decide) (.cons ?_ (.cons q .nil))) (items_rp t r fun t ht => off t (List.mem_cons_of_mem _ ht))
      cases k with
      | inl i => exact .int i
      | inr x => exact .str x kz
theorem df_listItems (hc : X.calm = true) (h : DE X C e f) (hg : Gl X "list") (hm : X.mg "list" = none) (hv : bootBuiltins "list" = some (.type "list")) (hbase : attributeBase e "items" X.env (eval e X.env) = eval e X.env := by rfl) (hline : (apos.endLine == cpos.line) = true := by rfl)
    (hs : starEach [.Call (.Attribute e "items" apos) [] [] cpos] X.env = (false, eval (.Call (.Attribute e "items" apos) [] [] cpos) X.env) :: starEach [] X.env := by rfl) :
    DF X C .lst (.Call (.Name "list" p) [.Call (.Attribute e "items" apos) [] [] cpos] [] pos) (dItemsL f) := by
  obtain ⟨t, pt, qt⟩ := h.ex
  refine ⟨_, pe_listItemsR hc pt hg hm hv hbase hline hs, fun Y σ H M ρ Q hl s w => ?_⟩
  refine qt Y σ H M ρ _ hl s (Wi.seq w fun d ρ1 v H1 M1 s1 st1 r1 w1 => ?_)
  cases d with
  | dict ds =>
    have w2 : Wi (gs X) C Y σ H1 M1 (RF (gs X) Y σ .lst) (match (if ds.all (fun p => plainK p.1) = true then some (ds.map fun p => PyData.tuple [p.1, p.2]) else none) with
      | some ls => .ok (.list ls) ρ1
      | none => .bad) Q := w1
    split at w2
    · rename_i ls els
      split at els
      · rename_i pl
        cases els
        have fin : ∀ (a : Addr) (kvs : List (Key × V)), (Rd H1 a (.dK kvs) ∨ kvs = [] ∧ Rd H1 a (HN X.prog X.w a [])) → kvs.length ≤ sizeLine → RpK (gs X) H1 M1 kvs ds → rItemsR X (.ref a) H1 Q := fun a kvs rd hz rk => by
          refine ⟨a, kvs, rfl, rd, fun H' p ts g np nt pn e5 pr => ?_⟩
          obtain ⟨s2, st2⟩ := s1.plus g np e5
          refine w2 _ H' (Mp M1 p) s2 st2 ⟨p, rfl, .inr rfl, s1.h0none np, fun i q => (s1.ownM q).2 np, _, _, rfl, e5, by rw [List.length_map, Paired.length pr]; exact hz, ?_⟩
          have rk' := rk.step st2 _ _
          exact items_rp pr rk' fun t ht z => by
            rcases z with z | z
            · exact s1.al t z (nt t ht)
            · exact pn (z ▸ ht)
        cases r1 with
        | dK rd n hz rk => exact fin _ _ (.inl rd) hz rk
        | dN rd n rn =>
          cases rn with
          | nil => exact fin _ [] (.inr ⟨rfl, rd⟩) (Nat.zero_le _) .nil
          | cons q1 q2 q3 q4 q5 t =>
            have h1 := RpN.tups (.cons q1 q2 q3 q4 q5 t) _ List.mem_cons_self
            have h2 := List.all_eq_true.mp pl _ List.mem_cons_self
            rename_i kd' _ _ _
            cases kd' <;> first | (simp [tupK] at h1; done) | (simp [plainK] at h2; done)
      · cases els
    · exact w2.elim
  | _ => exact (show False from w1).elim
end
end DL
end

section
set_option Elab.async false
set_option autoImplicit false
set_option linter.all false
set_option maxRecDepth 100000
set_option maxHeartbeats 1000000
/-! DL12: dict of a list of pairs; any of a generator. -/
namespace DL
open PySem PySem.Spec PyProof.Rows L2

def pairsOf : List D → Option (List (D × D))
  | [] => some []
  | .tuple [k, v] :: r => (pairsOf r).map fun ps => (k, v) :: ps
  | _ :: _ => none
def kputs : List (D × D) → List (D × D) → Option (List (D × D))
  | acc, [] => some acc
  | acc, p :: r => (keyOf p.1).bind fun k => kputs (kput acc p.1 k p.2) r
def gDictK : List D → Option D
  | [.list ds] => (pairsOf ds).bind fun ps => if ps.all (fun p => plainK p.1) = true then (kputs [] ps).map .dict else none
  | _ => none
/-- tuple keys no deeper than 8 -/
def deep8 : D → Bool
  | .tuple ds => match keyOf (.tuple ds) with
    | some k => decide (k.depth ≤ 8)
    | none => false
  | _ => false
def gDictN : List D → Option D
  | [.list ds] => (pairsOf ds).bind fun ps => if ps.all (fun p => deep8 p.1) = true then (kputs [] ps).map .dict else none
  | _ => none
theorem pairsOf_cons {d : D} {r : List D} {ps : List (D × D)} (h : pairsOf (d :: r) = some ps) : ∃ k v ps', d = .tuple [k, v] ∧ pairsOf r = some ps' ∧ ps = (k, v) :: ps' := by
  unfold pairsOf at h
  split at h
  · rename_i e; cases e
  · rename_i k v r' e
    cases e
    obtain ⟨ps', e1, rfl⟩ := Option.map_eq_some_iff.mp h
    exact ⟨k, v, ps', rfl, e1, rfl⟩
  · cases h
section
variable {K : Gs} {H : Hp} {M : Addr → Prop}
/-- plain pairs -/
theorem pairs_k : ∀ {ds : List D} {xs : List V} {ps : List (D × D)}, RpA K H M xs ds → pairsOf ds = some ps → ps.all (fun p => plainK p.1) = true → ∃ (ts : List Addr) (kvs : List (Key × V)), xs = ts.map V.ref ∧ Paired (fun p kv => SqT K.K H p [kV kv.1, kv.2]) ts kvs ∧ RpK K H M kvs ps
  | [], _, _, r, e, _ => by cases r; cases e; exact ⟨[], [], rfl, .nil, .nil⟩
  | d :: ds, _, _, r, e, h => by
    cases r with
    | cons q r =>
      obtain ⟨k, v, ps', rfl, e1, rfl⟩ := pairsOf_cons e
      rw [List.all_cons, Bool.and_eq_true] at h
      obtain ⟨ts, kvs, rfl, h2, h3⟩ := pairs_k r e1 h.2
      obtain ⟨a, us, rfl, sq, hz, ra⟩ := q.seqT
      cases ra with
      | cons rk ra =>
        cases ra with
        | cons rv ra =>
          cases ra
          have hk : plainK k = true := h.1
          cases k with
          | int i =>
            cases rk
            exact ⟨a :: ts, (.inl i, _) :: kvs, rfl, .cons sq h2, .cons (k := .inl i) trivial rv h3⟩
          | str x =>
            cases rk with
            | str _ z => exact ⟨a :: ts, (.inr x, _) :: kvs, rfl, .cons sq h2, .cons (k := .inr x) z rv h3⟩
          | _ => cases hk
theorem RpK.kputs : ∀ {ms : List (Key × V)} {ps : List (D × D)} {kvs : List (Key × V)} {acc out : List (D × D)}, RpK K H M ms ps → RpK K H M kvs acc → DL.kputs acc ps = some out → RpK K H M (mergeK kvs ms) out
  | _, _, _, _, _, .nil, r, e => by cases e; exact r
  | _, _, kvs, _, out, .cons (k := k) (v := v) (vs := vs) kz q t, r, e => by
    have e' : (keyOf (kD k)).bind (fun k' => DL.kputs (kput _ (kD k) k' _) _) = some _ := e
    rw [keyOf_kD] at e'
    have h := RpK.kputs t (r.put k kz q) e'
    exact h
end
/-- dict(xs), plain keys -/
def rDictK (X : Cx) : List V → Hp → VK → Prop := fun xs H Q => ∃ (a : Addr) (ps : List Addr) (kvs : List (Key × V)), xs = [.ref a] ∧ SqL X.K H a (ps.map V.ref) ∧ Paired (fun p kv => SqT X.K H p [kV kv.1, kv.2]) ps kvs ∧
    ∀ p, H p = none → Q (.ref p) (upd H p (.dK (mergeK [] kvs)))
theorem cf_dictK {X : Cx} : CallF X .dK (rDictK X) gDictK := by
  intro H M vs ds z Q al h hg q
  unfold gDictK at hg
  split at hg
  · rename_i ds
    obtain ⟨ps, e1, e2⟩ := bind_some hg
    split at e2
    · rename_i hp
      obtain ⟨out, e3, rfl⟩ := Option.map_eq_some_iff.mp e2
      obtain ⟨v, rfl, r⟩ := h.one
      obtain ⟨a, ws, rfl, ea, hz, ra⟩ := r.seqL
      obtain ⟨ts, kvs, rfl, h2, h3⟩ := pairs_k ra e1 hp
      have rk := RpK.kputs h3 .nil e3
      refine ⟨a, ts, kvs, rfl, ea, h2, fun p hp => q p _ hp ⟨_, _, rfl, upd_same, ?_, rk.step (.more hp) _ _⟩⟩
      refine Nat.le_trans (length_mergeK kvs []) ?_
      have l1 : ts.length = kvs.length := Paired.length h2
      rw [List.length_nil, Nat.zero_add, ← l1]
      simpa using hz
    · cases e2
  · cases hg
/-! tuple keys -/
theorem storedAllH_len (xs ps : List (NestedKey × Addr × Value)) : (storedAllH xs ps).length ≤ xs.length + ps.length := by
  have := storedAllH_length ps xs
  omega
section
variable {X : Cx} {pins : List (Addr × Obj)} {σ : L2.St} {H : Hp} {M : Addr → Prop} {s : Shared}
theorem pairs_n (I : Inv X pins σ H s) : ∀ {ds : List D} {xs : List V} {ps : List (D × D)}, RpA (gs X) H M xs ds → pairsOf ds = some ps → ps.all (fun p => deep8 p.1) = true →
    ∃ (ts : List Addr) (nps : List (NestedKey × Addr × Value)), xs = ts.map V.ref ∧ ts.length = nps.length ∧ (∀ (j : Nat) (p : NestedKey × Addr × Value), nps[j]? = some p → ∃ t, ts[j]? = some t ∧ IsTup s.heap t #[.ref p.2.1, p.2.2]) ∧ (∀ p ∈ nps, (nestedKind X.prog X.w).is s.heap p.1 p.2.1) ∧ RpN (gs X) H M nps ps
  | [], _, _, r, e, _ => by cases r; cases e; exact ⟨[], [], rfl, rfl, (fun j p e => by simp at e), (fun p hp => by simp at hp), .nil⟩
  | d :: ds, _, _, r, e, h => by
    cases r with
    | cons q r =>
      obtain ⟨k, v, ps', rfl, e1, rfl⟩ := pairsOf_cons e
      rw [List.all_cons, Bool.and_eq_true] at h
      obtain ⟨ts, nps, rfl, h1, h2, h3, h4⟩ := pairs_n I r e1 h.2
      obtain ⟨a, us, rfl, sq, hz, ra⟩ := q.seqT
      obtain ⟨its, rv, ht, _⟩ := I.tuple sq
      cases ra with
      | cons rk ra =>
        cases ra with
        | cons rvv ra =>
          cases ra
          have hk : deep8 k = true := h.1
          cases k with
          | tuple ks =>
            have hk' : (match keyOf (.tuple ks) with
              | some k => decide (k.depth ≤ 8)
              | none => false) = true := hk
            split at hk'
            · rename_i nk ek
              have h8 : nk.depth ≤ 8 := of_decide_eq_true hk'
              obtain ⟨b, _, rfl, _⟩ := rk.seqT
              obtain ⟨u1, u2, rfl, ru1, ru2⟩ := vals2 rv
              cases (show u1 = Value.ref b from ru1)
              refine ⟨a :: ts, (nk, b, u2) :: nps, rfl, congrArg (· + 1) h1, fun j p e => ?_, fun p hp => ?_, .cons rk ek h8 ru2 rvv h4⟩
              · cases j with
                | zero =>
                  cases (show some _ = some p from e)
                  exact ⟨a, rfl, ht⟩
                | succ j =>
                  obtain ⟨t, t1, t2⟩ := h2 j p (by simpa using e)
                  exact ⟨t, by simpa using t1, t2⟩
              · rcases List.mem_cons.mp hp with e | hp
                · rw [e]
                  exact ⟨key_is I _ _ _ _ rk rfl ek, h8⟩
                · exact h3 p hp
            · cases hk'
          | _ => cases hk
theorem RpN.kputs {K : Gs} {H : Hp} {M : Addr → Prop} : ∀ {ms : List (NestedKey × Addr × Value)} {ps : List (D × D)} {xs : List (NestedKey × Addr × Value)} {acc out : List (D × D)}, RpN K H M ms ps → RpN K H M xs acc → DL.kputs acc ps = some out → RpN K H M (storedAllH xs ms) out
  | _, _, _, _, _, .nil, r, e => by cases e; exact r
  | _, _, _, _, _, .cons (k := k) (kd := kd) q1 q2 q3 q4 q5 t, r, e => by
    have e' : (keyOf kd).bind (fun k' => DL.kputs (kput _ kd k' _) _) = some _ := e
    rw [q2] at e'
    have h := RpN.kputs t (r.put q1 q2 q3 q4 q5) e'
    exact h
def rDictN (X : Cx) : List V → Hp → VK → Prop := fun vs H Q => ∃ (a : Addr) (M : Addr → Prop) (xs : List V) (ds : List D) (ps : List (D × D)), vs = [.ref a] ∧ SqL X.K H a xs ∧ RpA (gs X) H M xs ds ∧ pairsOf ds = some ps ∧ ps.all (fun p => deep8 p.1) = true ∧
  ∀ p nps, H p = none → RpN (gs X) H M nps ps → Q (.ref p) (upd H p (HN X.prog X.w p (storedAllH [] nps)))
theorem cr_dictN (hc : X.calm = true) (hu : X.A.units + 64 < cLine) : CallR X (.type "dict") (rDictN X) := by
  intro pins s σ H vs us Q I r h
  obtain ⟨a, M, xs, ds, ps, rfl, hq, ra, e1, h8, q⟩ := h
  obtain ⟨z, rfl, rx⟩ := r.one
  obtain rfl : z = Value.ref a := rx
  obtain ⟨its, rv, pl, hz⟩ := I.list hq
  obtain ⟨ts, nps, rfl, h1, h2, h3, h4⟩ := pairs_n I ra e1 h8
  have ei := refs_at rv
  subst ei
  obtain ⟨o, n, ho, hcl, hd, hdat⟩ := pl
  have hz' : nps.length ≤ sizeLine := by rw [← h1]; simpa using hz
  have PI : PairItems s.heap (ts.map Value.ref).toArray (fun j => ts.getD j 0) (nps.map fun p => (.ref p.2.1, p.2.2)) := by
    refine ⟨by simp [h1], fun j k v e => ?_⟩
    rw [List.getElem?_map] at e
    obtain ⟨p, e2, e3⟩ := Option.map_eq_some_iff.mp e
    cases e3
    obtain ⟨t, t1, t2⟩ := h2 j p e2
    refine ⟨by simp [t1, List.getD], .inl ?_⟩
    have : ts.getD j 0 = t := by simp [List.getD, t1]
    show s.heap.IsTuple (ts.getD j 0) _
    rw [this]
    exact t2
  have fr : H s.heap.objs.size = none := I.hok.fresh (Nat.le_refl _)
  have hm : (s.heap.objs.size == sysModules) = false := beq_eq_false_iff_ne.mpr (Nat.ne_of_gt I.big)
  refine call_dict_pairsH (knd := nestedKind X.prog X.w) (ps := nps) (PairArg.list a (ts.map Value.ref).toArray (fun j => ts.getD j 0) (nps.map fun p => (.ref p.2.1, p.2.2))) (I.ok.hd hc) (by show X.A.in1.in1.units + 8 < cLine; show X.A.units + 1 + 1 + 8 < cLine; omega) ⟨⟨o, n, ho, hcl, hd, hdat⟩, PI⟩ ⟨by simp, fun i key v e => ?_⟩ (fun h' hk x hx => ?_) (by simpa using hz') fun h' tk dd kp => ?_
  · have e' : (nps.map fun p => ((Value.ref p.2.1, p.2.2) : Value × Value))[i]? = some (key, v) := e
    rw [List.getElem?_map] at e'
    obtain ⟨p, e2, e3⟩ := Option.map_eq_some_iff.mp e'
    cases e3
    exact ⟨p.1, p.2.1, e2, rfl⟩
  · refine nestedKind_stays.stays (fun b o vs n e1 e2 => hk b o (Nat.ne_of_lt (Heap.lt_size e1)) (by simp) e1) (h3 x hx)
  · refine ⟨.ref s.heap.objs.size, _, I.laid (t' := tk) (o := HN X.prog X.w s.heap.objs.size (storedAllH [] nps)) (fun b o e => kp b o (by simp) e) (Nat.le_refl _) (hn_new dd hm ?_), rfl, q _ nps fr h4⟩
    have := storedAllH_len [] nps
    simp at this
    omega
theorem cf_dictN : CallF X .dN (rDictN X) gDictN := by
  intro H M vs ds z Q al h hg q
  unfold gDictN at hg
  split at hg
  · rename_i ds
    obtain ⟨ps, e1, e2⟩ := bind_some hg
    split at e2
    · rename_i hp
      obtain ⟨out, e3, rfl⟩ := Option.map_eq_some_iff.mp e2
      obtain ⟨v, rfl, r⟩ := h.one
      obtain ⟨a, ws, rfl, ea, hz, ra⟩ := r.seqL
      refine ⟨a, M, ws, ds, ps, rfl, ea, ra, e1, hp, fun p nps hp rn => q p _ hp ⟨_, _, rfl, upd_same, (RpN.kputs rn .nil e3).step (.more hp) _ _⟩⟩
    · cases e2
  · cases hg
end
end DL
end

section
set_option Elab.async false
set_option autoImplicit false
set_option linter.all false
set_option maxRecDepth 100000
set_option maxHeartbeats 1000000
/-! DL13: list(reversed(a list)). -/
namespace DL
open PySem PySem.Spec PyProof.Rows L2
section
variable {prog : Program} {w : World} {A : Around} {E : Value → Shared → Prop} {s : Shared} {it l : Addr} {items : Array Value}
theorem extend_rev {R : Result → Shared → Prop} (hh : A.handled = none) (hit : s.heap.IsRevIter it l ((items.size : Int) - 1)) (hl : s.heap.IsList l items) (hne : l ≠ it) (hn : items.size ≤ sizeLine) (S : Addr) (hSi : S ≠ it) (hSl : S ≠ l) (res : Value) (c₀ : Nat)
    (hS : s.heap.get? S = some { cls := .type "list", data := .seq #[] c₀ })
    (hR : ∀ h' tk acc' c', (∀ b o, b ≠ S → b ≠ it → s.heap.get? b = some o → h'.get? b = some o) → h'.get? S = some { cls := .type "list", dict := none, data := .seq acc' c', slots := #[] } → ItemsOf (fun i v => items[items.size - 1 - i]? = some v) acc' items.size → R (.ok (.ret res)) { s with heap := h', toks := tk }) :
    wpAny (model prog w) A.in1 (Builtin.List.listExtendWith (.ref S) (.ref it) res)
      (fun fin s' => match fin with | .done f => R (.ok f) s' | .again c' => c'.quiet = true ∧ codeAny (model prog w) A c' R s') (fun e s' => R (.error e) s') s := by
  have W := (Walks.listRev (prog := prog) (w := w) (A := A.in1) hh it l hne items).toS
  have hSf : S ∉ [it, l] := by simp only [List.mem_cons, List.not_mem_nil, or_false, not_or]; exact ⟨hSi, hSl⟩
  have hT : s.TypeIs (.ref it) "list_reverseiterator" := hit.typeIs
  have h1 : Builtin.List.listSameRef (.ref S) (.ref it) = false := by simp [Builtin.List.listSameRef, hSi]
  unfold Builtin.List.listExtendWith
  refine wpAny_bind (wpAny_typeOf hT ?_)
  rw [if_neg (by rw [h1]; decide)]
  refine wpAny_bind (wpAny_pyIter_revIter hit ?_)
  refine wpAny_bind (wpAny_holding ?_)
  unfold Builtin.List.listLengthHint
  refine wpAny_bind (wpAny_specialOf hT RT.nolen_lri ?_)
  show wpAny _ A.in1 (specialOf (Value.ref it) (Str.ofString "__length_hint__") >>= _) _ _ _
  refine wpAny_bind (wpAny_specialOf hT RT.hint_lri ?_)
  generalize hid : ("list_reverseiterator.__length_hint__" : String) = id0
  wp_delta
  rw [show splitId id0 = some ("list_reverseiterator", "__length_hint__") from by subst hid; decide +kernel]
  subst hid
  refine wpAny_bind (wpAny_isInstance (b := true) hT (by rw [isSubtype_type]; kernel_rfl) ?_)
  refine wpAny_pure ?_
  rw [if_neg (by decide)]
  have e0 : ((items.size : Nat) : Int) - 1 - ((0 : Nat) : Int) = (items.size : Int) - 1 := by omega
  refine wpAny_pure ⟨plainId_quiet F.plain_extend_loop _, codeAny_extend_loopS W hn _ hSf _ items.size 0 _ _ _ rfl (Nat.zero_le _) ⟨Nat.zero_le _, by rw [e0]; exact hit, hl⟩ hS (ItemsOf.nil _) fun s' acc' c' hm hS' hacc => ?_⟩
  rw [Moved.eq_with hm]
  refine hR s'.heap s'.toks acc' c' (fun b o hb hb2 e => hm.heap b o (fun hmem => ?_) e) hS' hacc
  rcases List.mem_cons.mp hmem with e' | hmem
  · exact hb e'
  · exact hb2 (List.mem_singleton.mp hmem)
theorem init_rev {R : Result → Shared → Prop} (hh : A.handled = none) (hit : s.heap.IsRevIter it l ((items.size : Int) - 1)) (hl : s.heap.IsList l items) (hne : l ≠ it) (hn : items.size ≤ sizeLine) (S : Addr) (hSi : S ≠ it) (hSl : S ≠ l)
    (hS : s.heap.get? S = some { cls := .type "list", data := .seq #[] })
    (hR : ∀ h' tk acc' c', (∀ b o, b ≠ S → b ≠ it → s.heap.get? b = some o → h'.get? b = some o) → h'.get? S = some { cls := .type "list", dict := none, data := .seq acc' c', slots := #[] } → ItemsOf (fun i v => items[items.size - 1 - i]? = some v) acc' items.size → R (.ok (.ret .none)) { s with heap := h', toks := tk }) :
    wpAny (model prog w) A.in1 (Builtin.«list.__init__» ⟨[.ref S, .ref it], []⟩)
      (fun fin s' => match fin with | .done f => R (.ok f) s' | .again c' => c'.quiet = true ∧ codeAny (model prog w) A c' R s') (fun e s' => R (.error e) s') s := by
  show wpAny _ _ (do let old ← Builtin.List.listItems (.ref S); Builtin.List.listUpdate (.ref S) (fun _ => #[]); letGo old.toList.reverse; Builtin.List.listExtendWith (.ref S) (.ref it) .none) _ _ s
  refine wpAny_bind ?_
  unfold Builtin.List.listItems
  refine wpAny_bind (wpAny_seqItems hS rfl (wpAny_pure ?_))
  show wpAny _ _ (updateSeq S (fun _ => #[]) >>= fun _ => letGo (#[] : Array Value).toList.reverse >>= fun _ => Builtin.List.listExtendWith (.ref S) (.ref it) .none) _ _ s
  refine wpAny_bind (wpAny_updateSeq hS rfl ?_)
  have hS₂ := Heap.get?_update_self (Obj.mapSeq (fun _ => (#[] : Array Value))) hS rfl
  have oth : ∀ b o, b ≠ S → s.heap.get? b = some o → (s.heap.update S (Obj.mapSeq (fun _ => (#[] : Array Value)))).get? b = some o :=
    fun b o hb e => (Heap.get?_update_other _ _ (Ne.symm hb)).trans e
  refine wpAny_bind (wpAny_letGo ?_)
  refine extend_rev (s := { s with heap := s.heap.update S (Obj.mapSeq (fun _ => (#[] : Array Value))) }) hh (hit.at fun o e => oth _ o (Ne.symm hSi) e) (hl.at fun o e => oth _ o (Ne.symm hSl) e) hne hn S hSi hSl .none _ hS₂ (fun h' tk acc' c' hk hS' hacc => ?_)
  exact hR h' tk acc' c' (fun b o hb hb2 e => hk b o hb hb2 (oth b o hb e)) hS' hacc
theorem call_list_rev {Q : Value → Shared → Prop} (hh : A.handled = none) (hit : s.heap.IsRevIter it l ((items.size : Int) - 1)) (hl : s.heap.IsList l items) (hne : l ≠ it) (hn : items.size ≤ sizeLine)
    (hQ : ∀ h' tk acc' c', (∀ b o, b ≠ it → s.heap.get? b = some o → h'.get? b = some o) → h'.get? s.heap.objs.size = some { cls := .type "list", dict := none, data := .seq acc' c', slots := #[] } → ItemsOf (fun i v => items[items.size - 1 - i]? = some v) acc' items.size → Q (.ref s.heap.objs.size) { s with heap := h', toks := tk }) :
    wpAny (model prog w) A (call (.type "list") [.ref it]) Q E s := by
  refine callType_codes (Q₁ := fun obj s₁ => obj = .ref s.heap.objs.size ∧ s₁ = { s with heap := s.heap.push { cls := .type "list", data := .seq #[] } }) PySem.F.called_list (PySem.F.typeCall_list_1 _) PySem.F.entry_list_init
    (code_list_new _ ⟨rfl, rfl⟩) fun obj s₁ h₁ => ?_
  obtain ⟨rfl, rfl⟩ := h₁
  have hS : (s.heap.push { cls := .type "list", data := .seq #[] }).get? s.heap.objs.size = some { cls := .type "list", data := .seq #[] } := Heap.get?_push_size _ rfl
  obtain ⟨oi, hoi, _⟩ := id hit
  obtain ⟨ol, hol, _⟩ := id hl
  have hSi : s.heap.objs.size ≠ it := Nat.ne_of_gt (Heap.lt_size hoi)
  have hSl : s.heap.objs.size ≠ l := Nat.ne_of_gt (Heap.lt_size hol)
  refine ⟨⟨_, hS, rfl⟩, PySem.F.args_list_init_2 _ _, init_rev (A := A.in1) (s := { s with heap := s.heap.push { cls := .type "list", data := .seq #[] } }) hh (hit.at fun o e => Heap.get?_push_of_some _ e) (hl.push _) hne hn _ hSi hSl hS (fun h' tk acc' c' hk hS' hacc => ?_)⟩
  exact ⟨rfl, hQ h' tk acc' c' (fun b o hb e => hk b o (Nat.ne_of_lt (Heap.lt_size e)) hb (Heap.get?_push_of_some _ e)) hS' hacc⟩
end
/-- list(reversed(x)), x a list -/
def tListRev (K : PySem.W.Frag) (te : TE) : TE := fun σ H Q => te σ H fun v H1 => ∃ (a : Addr) (xs : List V), v = .ref a ∧ SqL K H1 a xs ∧ ∀ q, H1 q = none → Q (.ref q) (upd H1 q (.lst xs.reverse))
section
variable {X : Cx} {C : Cs}
theorem pe_listRev {e : Expr} {te : TE} {p p2 pos pos2 : Pos} (hc : X.calm = true) (hg : Gl X "list") (hm : X.mg "list" = none) (hg2 : Gl X "reversed") (hm2 : X.mg "reversed" = none) (he : PE X e te)
    (hs : starEach [e] X.env = (false, eval e X.env) :: starEach [] X.env := by rfl)
    (hs2 : starEach [.Call (.Name "reversed" p2) [e] [] pos2] X.env = (false, eval (.Call (.Name "reversed" p2) [e] [] pos2) X.env) :: starEach [] X.env := by rfl) :
    PE X (.Call (.Name "list" p) [.Call (.Name "reversed" p2) [e] [] pos2] [] pos) (tListRev X.K te) := by
  refine ⟨fun pins s σ H Q I h => ?_⟩
  refine Call_ (ld_blt I hg hm boot_list (PyProof.Rows.callWith_type1 (args_cons (Call_ (ld_blt I hg2 hm2 PyProof.Rows.boot_reversed (PyProof.Rows.callWith_type1 (args_cons (thn (he.run pins s σ H _ I h) fun u s1 ⟨v, H1, I1, r1, q1⟩ => args_nil ?_) hs) hs rfl))) hs2) hs2 rfl))
  obtain ⟨a, xs, ev, hq, q⟩ := q1
  subst ev
  obtain rfl : u = Value.ref a := r1
  obtain ⟨its, rv, p', hz⟩ := I1.list hq
  refine call_reversed_list p'.isList (args_nil ?_)
  have k0 : ∀ b o, s1.heap.get? b = some o → (s1.heap.push (revObj a ((its.toArray.size : Int) - 1))).get? b = some o := fun b o e => Heap.get?_push_of_some _ e
  have I2 : Inv X pins σ H1 { s1 with heap := s1.heap.push (revObj a ((its.toArray.size : Int) - 1)) } := I1.kept (t' := s1.toks) k0
  obtain ⟨f0, f1, f2, f3, f4, f5⟩ := I1.fpOk (H' := H1) (b := s1.heap.objs.size) (Nat.le_refl _) (I1.hok.fresh (Nat.le_refl _))
  have hl := p'.isList
  obtain ⟨ol, hol, _⟩ := id hl
  have hne : a ≠ s1.heap.objs.size := Nat.ne_of_lt (Heap.lt_size hol)
  have hn : its.toArray.size ≤ sizeLine := by rw [List.size_toArray, ← rv.length]; exact hz
  refine call_list_rev (s := { s1 with heap := s1.heap.push (revObj a ((its.toArray.size : Int) - 1)) }) (I1.ok.hd hc) ⟨_, Heap.get?_push_size _ rfl, rfl, rfl⟩ (hl.push _) hne hn fun h' tk acc c' hk hS hi => ?_
  have hz2 : (s1.heap.push (revObj a ((its.toArray.size : Int) - 1))).objs.size = s1.heap.objs.size + 1 := Heap.size_push ..
  have hfr : H1 (s1.heap.objs.size + 1) = none := I1.hok.fresh (Nat.le_succ _)
  have hS2 : h'.get? (s1.heap.objs.size + 1) = some { cls := .type "list", dict := none, data := .seq acc c', slots := #[] } := by rw [← hz2]; exact hS
  have I3 : Inv X pins σ (upd H1 (s1.heap.objs.size + 1) (.lst xs.reverse)) { s1 with heap := h', toks := tk } := I1.laid (t' := tk) (o := .lst xs.reverse) (fun b o e => hk b o (Nat.ne_of_lt (Heap.lt_size e)) (k0 b o e)) (Nat.le_succ _) ⟨by rw [List.length_reverse]; exact hz, acc.toList, c', RT.vals_rev rv hi, by rw [Array.toArray_toList]; exact hS2⟩
  refine ⟨.ref (s1.heap.objs.size + 1), _, I3, ?_, q _ hfr⟩
  show Value.ref (s1.heap.push (revObj a ((its.toArray.size : Int) - 1))).objs.size = Value.ref (s1.heap.objs.size + 1)
  rw [hz2]
def dListRev (f : Env → Rs Arg) : Env → Rs D := fun ρ => (f ρ).bind fun x ρ1 => match x.get ρ1 with
  | some (.list ds) => .ok (.list ds.reverse) ρ1
  | _ => .bad
theorem df_listRev {e : Expr} {f : Env → Rs Arg} {p p2 pos pos2 : Pos} (hc : X.calm = true) (hg : Gl X "list") (hm : X.mg "list" = none) (hg2 : Gl X "reversed") (hm2 : X.mg "reversed" = none) (h : DV X C e f)
    (hs : starEach [e] X.env = (false, eval e X.env) :: starEach [] X.env := by rfl)
    (hs2 : starEach [.Call (.Name "reversed" p2) [e] [] pos2] X.env = (false, eval (.Call (.Name "reversed" p2) [e] [] pos2) X.env) :: starEach [] X.env := by rfl) :
    DF X C .lst (.Call (.Name "list" p) [.Call (.Name "reversed" p2) [e] [] pos2] [] pos) (dListRev f) := by
  obtain ⟨t, pt, qt⟩ := h.ex
  refine ⟨_, pe_listRev hc hg hm hg2 hm2 pt hs hs2, fun Y σ H M ρ Q hl s w => ?_⟩
  refine qt Y σ H M ρ _ hl s (Wi.seq w fun x ρ1 v H1 M1 s1 st1 r1 w1 => ?_)
  cases eg : x.get ρ1 with
  | none => rw [eg] at w1; exact w1.elim
  | some d =>
    rw [eg] at w1
    cases d with
    | list ds =>
      obtain ⟨a, xs, rfl, ea, hz, ra⟩ := (r1.rv s1 eg).seqL
      refine ⟨a, xs, rfl, ea, fun p hp => ?_⟩
      exact w1 _ _ (Mp M1 p) (s1.more hp) (.more hp) ⟨p, rfl, .inr rfl, s1.h0none hp, fun i q => (s1.ownM q).2 hp, _, _, rfl, upd_same, by rw [List.length_reverse]; exact hz, ra.reverse.step (.more hp) _ _⟩
    | _ => exact (show False from w1).elim
end
end DL
end

section
set_option Elab.async false
set_option autoImplicit false
set_option linter.all false
set_option maxRecDepth 100000
set_option maxHeartbeats 2000000
/-! DL14: any of a generator over a dict's values. -/
namespace DL
open PySem PySem.Spec PyProof.Rows L2 GxR

/-- the element is a test of the i-th item -/
def EltI (prog : Program) (w : World) (scope : Scope) (x : Str) (elt : Expr) (Pf : Nat → Value → Prop) (pb : Nat → Bool) : Prop :=
  ∀ (cenv : PySem.Env) (A' : Around) (E' : Value → Shared → Prop) (i : Nat) (v : Value) (s₂ : Shared) (m₂ : Str → Option Value), cenv.scope = scope → Pf i v → s₂.heap.Ns cenv.locals m₂ → m₂ x = some v →
    wpAny (model prog w) A' (eval elt cenv) (fun y s₃ => y = .bool (pb i) ∧ Keeps s₂ s₃) E' s₂
/-- x == k, the items ints -/
theorem elt_eqI {prog : Program} {w : World} {scope : Scope} {x : Str} {k : Int} {j : Nat} {p1 p2 p3 : Pos} {Pf : Nat → Value → Prop} {pb : Nat → Bool} (hk : scope.kind = .function) (hl : scope.names.lookup x = some .local) (hf : ∀ i v, Pf i v → ∃ n t, v = .int n t ∧ pb i = (n == k)) (hd : (x == ("__debug__" : Str)) = false := by decide) :
    EltI prog w scope x (.Compare (.Name x p1) [.Eq] [.Constant (.int k) j p2] p3) Pf pb := by
  intro cenv A' E' i v s₂ m₂ hs hv hn hm
  obtain ⟨n, t, rfl, e⟩ := hf i v hv
  refine wpAny_Compare1 ?_
  refine wpAny_Name (wpAny_loadName_local (by rw [hs]; exact hk) (show cenv.scope.names.lookup x = some .local by rw [hs]; exact hl) hn hm ?_) hd
  refine PySem.wpAny_Constant_int ?_
  exact PySem.P.eq_int ⟨by rw [e], keeps_tok _ _⟩
section
variable {X : Cx} {pins : List (Addr × Obj)} {σ : L2.St} {H : Hp} {s : Shared}
def ReadyN (X : Cx) (pins : List (Addr × Obj)) (σ : L2.St) (H1 : Hp) (P : Addr) (n : Nat) (pb : Nat → Bool) (g : Addr) (s5 : Shared) : Prop :=
  ∃ (fp wr : List Addr) (G : Array GenState → Array GenState → Prop) (F : Nat → Value → Prop) (St : Nat → Shared → Prop),
    WalksS X.prog X.w X.A.in1 g fp wr G n F St ∧ St 0 s5 ∧ TruthOf X.prog X.w X.A.in1 F pb ∧ ∀ s', Moved wr G s5 s' → ∃ H2, Tabbed P H1 H2 ∧ Inv X pins σ H2 s'
/-- behind the iterator: it stands at s1.heap.objs.size -/
theorem gen_tail {c P : Addr} {elt : Expr} {x : Str} {gpos : Pos} {scope : Scope} {k : Nat} {Q' : Value → Shared → Prop} {pb : Nat → Bool} {n : Nat} {d : Addr} {o : Obj} {Pf : Nat → Value → Prop} {St : Nat → Heap → Prop} {s1 : Shared} {H1 : Hp}
    (hr : Room k X.A) (TB : TabB X.base X.mg c P) (hcode : X.env.code = .ref c) (S : GenS X.env scope x) (I1 : Inv X pins σ H1 s1) (hT : TabG H1 P) (W : ∀ A' : Around, A'.handled = none → Walks X.prog X.w A' s1.heap.objs.size [s1.heap.objs.size, d] [s1.heap.objs.size] n Pf St)
    (hst : St 0 (s1.heap.push o)) (hd : ∃ od, s1.heap.get? d = some od) (hdP : d ≠ P) (hel : EltI X.prog X.w scope x elt (fun i v => Pf i v) pb) (hpf : ∀ i v, Pf i v → i < n)
    (hQ : ∀ g s5, ReadyN X pins σ H1 P n pb g s5 → Q' (.ref g) s5) :
    ({ s1 with heap := s1.heap.push o } : Shared).heap.NoLimit ∧ wpAny (model X.prog X.w) X.A (genexprCode X.env gpos (X.env.qual ++ "<genexpr>") scope) (fun code s₃ => wpAny (model X.prog X.w) X.A (builtinsFor X.env.globals X.env.builtins) (fun bi s₄ =>
        ∃ I fp wr n₀ P St₀ pz F, Value.ref s1.heap.objs.size = .ref I ∧ (∀ A' : Around, A'.handled = none → Walks X.prog X.w A' I fp wr n₀ P St₀) ∧ St₀ 0 s₄.heap ∧ (∀ b ∈ fp, b < s₄.heap.objs.size) ∧ s₄.heap.NoLimit ∧ cStatics ∉ wr ∧
          (∀ href : Heap, (∀ b o, s₄.heap.get? b = some o → href.get? b = some o) →
            QuietGen X.prog X.w (genEnv scope (cloFrom X.env.cells scope.names []) s₄.heap.objs.size code bi X.env) x [] elt (List.range s₄.heap.objs.size) wr P pz F href) ∧
          (∀ a h₅ tk gs, gs.bare = true → s₄.heap.objs.size < a → h₅.objs.size = a + 1 → (∀ b o, s₄.heap.get? b = some o → h₅.get? b = some o) →
            WalksS X.prog X.w X.A.in4 a (a :: s₄.heap.objs.size :: List.range s₄.heap.objs.size) (s₄.heap.objs.size :: wr) (GenOnlyQ s₄.gens.size) (passing pz n₀ 0).length
              (fun j y => ∃ i, (passing pz n₀ 0)[j]? = some i ∧ F i y) (GenAt X.prog X.w X.A.in4 a s₄.gens.size s₄.heap.objs.size (List.range s₄.heap.objs.size) wr pz n₀ F) →
            GenAt X.prog X.w X.A.in4 a s₄.gens.size s₄.heap.objs.size (List.range s₄.heap.objs.size) wr pz n₀ F 0 { s₄ with gens := s₄.gens.push gs, toks := tk, heap := h₅ } →
            Q' (.ref a) { s₄ with gens := s₄.gens.push gs, toks := tk, heap := h₅ })) X.xe s₃) X.xe { s1 with heap := s1.heap.push o } := by
  obtain ⟨ps, hP, ht⟩ := hT
  have hPs : s1.heap.get? P = some { cls := .none, data := .fields ps } := I1.hok P _ hP
  have hPlt : P < s1.heap.objs.size := Heap.lt_size hPs
  have hP2 : (s1.heap.push o).get? P = some { cls := .none, data := .fields ps } := Heap.get?_push_of_some _ hPs
  have cd : PySem.W.CodeHd (s1.heap.push o) c P := TB.code.keeps fun b u e => Heap.get?_push_of_some _ (I1.bk b u e)
  have lim2 : (s1.heap.push o).NoLimit := I1.nolimit.push o
  obtain ⟨od, hod⟩ := hd
  have hdlt : d < s1.heap.objs.size := Heap.lt_size hod
  have cont : ∀ (code : Value) (h3 : Heap) (tk : Nat) (ps' : Array Value), Heap.ExtBut P (s1.heap.push o) h3 → (s1.heap.push o).objs.size ≤ h3.objs.size → h3.get? P = some { cls := .none, data := .fields ps' } → (∃ more, ps' = ps ++ more) → TriplesOk ps'.toList →
      wpAny (model X.prog X.w) X.A (builtinsFor X.env.globals X.env.builtins) (fun bi s₄ =>
        ∃ I fp wr n₀ P St₀ pz F, Value.ref s1.heap.objs.size = .ref I ∧ (∀ A' : Around, A'.handled = none → Walks X.prog X.w A' I fp wr n₀ P St₀) ∧ St₀ 0 s₄.heap ∧ (∀ b ∈ fp, b < s₄.heap.objs.size) ∧ s₄.heap.NoLimit ∧ cStatics ∉ wr ∧
          (∀ href : Heap, (∀ b o, s₄.heap.get? b = some o → href.get? b = some o) →
            QuietGen X.prog X.w (genEnv scope (cloFrom X.env.cells scope.names []) s₄.heap.objs.size code bi X.env) x [] elt (List.range s₄.heap.objs.size) wr P pz F href) ∧
          (∀ a h₅ tk gs, gs.bare = true → s₄.heap.objs.size < a → h₅.objs.size = a + 1 → (∀ b o, s₄.heap.get? b = some o → h₅.get? b = some o) →
            WalksS X.prog X.w X.A.in4 a (a :: s₄.heap.objs.size :: List.range s₄.heap.objs.size) (s₄.heap.objs.size :: wr) (GenOnlyQ s₄.gens.size) (passing pz n₀ 0).length
              (fun j y => ∃ i, (passing pz n₀ 0)[j]? = some i ∧ F i y) (GenAt X.prog X.w X.A.in4 a s₄.gens.size s₄.heap.objs.size (List.range s₄.heap.objs.size) wr pz n₀ F) →
            GenAt X.prog X.w X.A.in4 a s₄.gens.size s₄.heap.objs.size (List.range s₄.heap.objs.size) wr pz n₀ F 0 { s₄ with gens := s₄.gens.push gs, toks := tk, heap := h₅ } →
            Q' (.ref a) { s₄ with gens := s₄.gens.push gs, toks := tk, heap := h₅ })) X.xe { s1 with heap := h3, toks := tk } := by
    intro code h3 tk ps' hx hsz hP3 hmore ht3
    obtain ⟨bm, ob, e1, e2, e3, e4, e5, e6, e7, e8⟩ := TB.bm
    have hcP : cStatics ≠ P := fun e => by
      obtain ⟨_, hns, _⟩ := I1.nolimit
      obtain ⟨o', es, ep, ho, hd, _⟩ := hns
      rw [e, hPs] at ho
      cases ho
      cases hd
    have hcl : cStatics < s1.heap.objs.size := let ⟨_, hns, _⟩ := I1.nolimit; hns.lt
    have sz2 : (s1.heap.push o).objs.size = s1.heap.objs.size + 1 := Heap.size_push ..
    have keep3 : ∀ b u, b ≠ P → s1.heap.get? b = some u → h3.get? b = some u := fun b u hb e => hx b u hb (Heap.get?_push_of_some _ e)
    refine wpAny_builtinsFor (m := X.mg) (by rw [I1.ok.glob]; exact ((I1.mod.glob.keeps I1.bk).push o).extBut hx TB.gP) e1 e2 (keep3 _ _ e4 (I1.bk _ _ e5)) e6 e7 e8 ?_
    refine ⟨s1.heap.objs.size, [s1.heap.objs.size, d], [s1.heap.objs.size], n, Pf, St, (fun _ => true), (fun i y => i < n ∧ y = .bool (pb i)), rfl, W, ?_, ?_, lim2.extBut hx hcP, ?_, ?_, ?_⟩
    · refine (W X.A hr.hd).frame _ _ _ hst fun b hb u e => hx b u (fun z => ?_) e
      rcases List.mem_cons.mp hb with z2 | z2
      · exact Nat.ne_of_lt hPlt (z.symm.trans z2)
      · rcases List.mem_cons.mp z2 with z2 | z2
        · exact hdP (z2.symm.trans z)
        · cases z2
    · intro b hb
      rcases List.mem_cons.mp hb with z | z
      · rw [z]
        show s1.heap.objs.size < h3.objs.size
        omega
      · rcases List.mem_cons.mp z with z | z
        · rw [z]
          have hle : s1.heap.objs.size ≤ h3.objs.size := by omega
          exact Nat.lt_of_lt_of_le hdlt hle
        · cases z
    · intro z
      rcases List.mem_cons.mp z with z | z
      · exact Nat.ne_of_lt hcl z
      · cases z
    · intro href hhref
      refine ⟨fun A' E' i v s₂ m₂ hA hPv hn hm hk => ?_, fun A' E' i v s₂ m₂ hA hPv hp hn hm hk => ?_⟩
      · simp only [List.forIn_nil]
        exact wpAny_pure ⟨rfl, keeps_refl _⟩
      · exact wpAny_mono (hel _ A' E' i v s₂ m₂ rfl hPv hn hm) (fun y s3 r => ⟨⟨hpf i v hPv, r.1⟩, r.2⟩) fun _ _ e => e
    · intro g h5 tk5 gs hgb hag hsz5 hk5 W5 hat
      simp only [GxR.passing_true, List.length_range] at W5
      refine hQ g _ ⟨_, _, _, _, _, W5.in4_1, hat, ?_, fun s' hm => ?_⟩
      · intro j y sj Qj Ej hy hQj
        obtain ⟨i, hij, hin, rfl⟩ := hy
        obtain ⟨hj, ej⟩ := List.getElem?_eq_some_iff.mp hij
        rw [List.getElem_range] at ej
        subst ej
        exact wpAny_truthy_bool hQj
      · obtain ⟨more, em⟩ := hmore
        have nwr : ∀ b u, s1.heap.get? b = some u → b ∉ h3.objs.size :: [s1.heap.objs.size] := fun b u e hb => by
          have hl := Heap.lt_size e
          rcases List.mem_cons.mp hb with z | z
          · rw [z] at hl
            have h9 : (h3.objs.size : Nat) < s1.heap.objs.size := hl
            omega
          · rcases List.mem_cons.mp z with z | z
            · rw [z] at hl
              exact Nat.lt_irrefl _ hl
            · cases z
        have J := inv_tab (more := more) (h' := s'.heap) (g' := s'.gens) (d' := s'.drawn) (t' := s'.toks) I1 hP (fun b u hb e => hm.heap b u (nwr b u e) (hk5 b u (keep3 b u hb e)))
          (by rw [← em]; exact hm.heap P _ (nwr P _ hPs) (hk5 P _ hP3)) (AllBare.movedS (I1.bare.push hgb) hm)
        rw [sh_eta s1 s' hm.os] at J
        refine ⟨upd H1 P (.tbl (ps ++ more)), ⟨⟨ps ++ more, upd_same, by rw [← em]; exact ht3⟩, fun b hb => upd_ne hb⟩, J⟩
  refine ⟨lim2, ?_⟩
  cases hf : codeAmong gpos ps.toList with
  | none =>
    refine wpAny_genexprCodeX hcode (cd.code hP2 ht) (cd.tab hP2) hf fun c' h' tk hx hge hlt hco' _ htab' _ => ?_
    obtain ⟨o1, vs, f1, tf, fl, tg, inF, tx, tt, op, _, _, _, _, _, _, _, _, _, htr, _⟩ := hco'
    exact cont _ h' tk _ hx (Nat.le_trans hge (Nat.le_of_lt hlt)) htab'.2 ⟨_, rfl⟩ htr
  | some cv =>
    refine wpAny_genexprCode_hit hcode (cd.code hP2 ht) hf ?_
    exact cont cv (s1.heap.push o) s1.toks ps (Heap.ExtBut.refl _ _) (Nat.le_refl _) hP2 ⟨#[], by simp⟩ ht
/-- any(test for x in e.values()) -/
def tAnyV (X : Cx) (P : Addr) (pv : V → Option Bool) (te : TE) : TE := fun σ H Q => te σ H fun v H1 => ∃ (d : Addr) (u : HO) (ks vs : List V) (bs : List Bool), v = .ref d ∧ ViewD X.prog X.w d u ks vs ∧ Rd H1 d u ∧ TabG H1 P ∧ vs.map pv = bs.map some ∧ ∀ H2, Tabbed P H1 H2 → Q (.bl (bs.any id)) H2
theorem range_any : ∀ bs : List Bool, (List.range bs.length).any (fun i => bs.getD i false) = bs.any id := fun bs => by
  rw [Bool.eq_iff_iff, List.any_eq_true, List.any_eq_true]
  constructor
  · intro ⟨j, hj, h⟩
    have hj' := List.mem_range.mp hj
    refine ⟨bs[j], List.getElem_mem hj', ?_⟩
    simpa [List.getD, List.getElem?_eq_getElem hj'] using h
  · intro ⟨b, hb, h⟩
    obtain ⟨j, hj, e⟩ := List.getElem_of_mem hb
    refine ⟨j, List.mem_range.mpr hj, ?_⟩
    rw [List.getD, List.getElem?_eq_getElem hj, e]
    exact h
theorem gen_vals {c P : Addr} {elt e : Expr} {x : Str} {px gpos apos cpos : Pos} {scope : Scope} {pv : V → Option Bool} {te : TE} {k : Nat} {Q' : Value → Shared → Prop} {R : List Bool → Hp → Prop}
    (hr : Room k X.A) (TB : TabB X.base X.mg c P) (hcode : X.env.code = .ref c) (S : GenS X.env scope x) (hi : PE X e te) (hel : ∀ (Pf : Nat → Value → Prop) (pb : Nat → Bool), (∀ i v, Pf i v → ∃ z, RelV z v ∧ pv z = some (pb i)) → EltI X.prog X.w scope x elt Pf pb)
    (hbase : attributeBase e "values" X.env (eval e X.env) = eval e X.env) (hline : (apos.endLine == cpos.line) = true) (hs : ∀ v, genFold (.Call (.Attribute e "values" apos) [] [] cpos) X.env v = pure v) (I : Inv X pins σ H s)
    (hq : te σ H fun v H1 => ∃ (d : Addr) (u : HO) (ks vs : List V) (bs : List Bool), v = .ref d ∧ ViewD X.prog X.w d u ks vs ∧ Rd H1 d u ∧ TabG H1 P ∧ vs.map pv = bs.map some ∧ R bs H1)
    (hQ : ∀ bs H1 g s5, R bs H1 → ReadyN X pins σ H1 P bs.length (fun i => bs.getD i false) g s5 → Q' (.ref g) s5) :
    wpAny (model X.prog X.w) X.A (eval (.GeneratorExp elt [⟨.Name x px, .Call (.Attribute e "values" apos) [] [] cpos, [], 0⟩] scope gpos) X.env) Q' X.xe s := by
  refine wpAny_GeneratorExp_walksQ hr.hd S.co (closure_ok S.free) S.cell S.dot S.loc S.kind (by have := hr.dp; omega) ?_ hs
  refine wpAny_Call_method (T := "dict") (id := "dict.values") hbase rfl hline F.plainAttrs_dict F.slot_dict_values F.type_dict_values (thn (hi.run pins s σ H _ I hq) fun v s1 ⟨z, H1, I1, rx, d, u, ks, vs, bs, ex, V, hd, hT, hbs, q⟩ => ?_)
  subst ex
  obtain rfl : v = Value.ref d := rx
  obtain ⟨hs0, od, es, ep, hgd, RW⟩ := view_rd I1 hd V
  have hm : s1.heap.DictRaw d es ep := ⟨od, hgd, RW.x, RW.d⟩
  refine ⟨hm.typeIs, fun a ea => by cases ea; exact ⟨od, hgd, RW.x.2.1⟩, ?_⟩
  have I3 : Inv X pins σ H1 { s1 with heap := s1.heap.push { cls := .type "dict_values", data := .fields #[.ref d] } } := I1.kept (t' := s1.toks) fun b ob q => Heap.get?_push_of_some _ q
  have hg3 : (s1.heap.push { cls := .type "dict_values", data := .fields #[.ref d] }).get? d = some od := Heap.get?_push_of_some _ hgd
  show wpAny _ _ (callWith cpos (.builtin "dict.values") [.ref d] [] []) _ X.xe s1
  refine method_meetsIn F.slot_dict_values F.entry_dict_values rfl (PySem.evalArgs_none ⟨rfl, hm.typeIs, F.args_dict_values_1 _, _, meets_dict_values_raw d hs0, ⟨es, ep, hm⟩, ?_⟩)
  refine wpAny_pyIter_values_raw (d := d) (ep := ep) ⟨_, Heap.get?_push_size _ rfl, rfl, rfl⟩ ⟨od, hg3, RW.x, RW.d⟩ ?_
  have hlb : bs.length = es.size := by
    have := congrArg List.length hbs
    rw [List.length_map, List.length_map, RW.lv] at this
    exact this.symm
  obtain ⟨ps, hP, ht⟩ := id hT
  have hdP : d ≠ P := fun z => by
    have h1 : s1.heap.get? P = some { cls := .none, data := .fields ps } := I1.hok P _ hP
    rw [← z, hgd] at h1
    have e1 := congrArg Obj.data (Option.some.inj h1)
    rw [RW.d] at e1
    cases e1
  refine gen_tail (s1 := { s1 with heap := s1.heap.push { cls := .type "dict_values", data := .fields #[.ref d] } }) (o := { cls := .type "dict_valueiterator", data := .fields #[.ref d, .int 0 0, .int es.size 0, .int ep 0] }) (n := es.size) (pb := fun i => bs.getD i false) hr TB hcode S I3 hT (fun A' hA => Walks.rawValues hA _ d (Nat.ne_of_lt (Heap.lt_size hg3)) es ep) ⟨⟨_, Heap.get?_push_size _ rfl, rfl, rfl⟩, ⟨od, Heap.get?_push_of_some _ hg3, RW.x, RW.d⟩⟩ ⟨od, hg3⟩ hdP
    (hel _ _ fun i v hv => ?_) (fun i v hv => hv.1) fun g s5 hG => ?_
  · obtain ⟨hi, rfl⟩ := hv
    have hiv : i < vs.length := by rw [RW.lv]; exact hi
    refine ⟨vs[i], RW.v i hi _ (List.getElem?_eq_getElem hiv), ?_⟩
    have e1 : (vs.map pv)[i]? = (bs.map some)[i]? := by rw [hbs]
    rw [List.getElem?_map, List.getElem?_map, List.getElem?_eq_getElem hiv, List.getElem?_eq_getElem (by omega)] at e1
    have e2 := Option.some.inj e1
    rw [e2]
    simp [List.getD, List.getElem?_eq_getElem (show i < bs.length by omega)]
  · exact hQ bs H1 g s5 q (by rw [hlb]; exact hG)
theorem pe_anyV {c P : Addr} {elt e : Expr} {x : Str} {px p pos gpos apos cpos : Pos} {scope : Scope} {pv : V → Option Bool} {te : TE} {k : Nat} (hc : X.calm = true)
    (hr : Room k X.A) (hg : Gl X "any") (hm : X.mg "any" = none) (TB : TabB X.base X.mg c P) (hcode : X.env.code = .ref c) (S : GenS X.env scope x) (hi : PE X e te) (hel : ∀ (Pf : Nat → Value → Prop) (pb : Nat → Bool), (∀ i v, Pf i v → ∃ z, RelV z v ∧ pv z = some (pb i)) → EltI X.prog X.w scope x elt Pf pb)
    (hbase : attributeBase e "values" X.env (eval e X.env) = eval e X.env := by rfl) (hline : (apos.endLine == cpos.line) = true := by rfl)
    (hs : ∀ v, genFold (.Call (.Attribute e "values" apos) [] [] cpos) X.env v = pure v := by intro _; rfl)
    (he : starEach [.GeneratorExp elt [⟨.Name x px, .Call (.Attribute e "values" apos) [] [] cpos, [], 0⟩] scope gpos] X.env = (false, eval (.GeneratorExp elt [⟨.Name x px, .Call (.Attribute e "values" apos) [] [] cpos, [], 0⟩] scope gpos) X.env) :: starEach [] X.env := by rfl) :
    PE X (.Call (.Name "any" p) [.GeneratorExp elt [⟨.Name x px, .Call (.Attribute e "values" apos) [] [] cpos, [], 0⟩] scope gpos] [] pos) (tAnyV X P pv te) := by
  refine ⟨fun pins s σ H Q I h => ?_⟩
  refine wpAny_Call_Name_kw (ld_blt I hg hm boot_any ?_)
  refine PyProof.Rows.callWith_builtin1 ?_ he (by rfl)
  rw [he]
  show wpAny _ _ (spliced ((false, eval (.GeneratorExp elt [⟨.Name x px, .Call (.Attribute e "values" apos) [] [] cpos, [], 0⟩] scope gpos) X.env) :: backTo pos (starEach [] X.env))) _ _ s
  refine Calls.spliced_cons (gen_vals (R := fun bs H1 => ∀ H2, Tabbed P H1 H2 → Q (.bl (bs.any id)) H2) hr TB hcode S hi hel hbase hline hs I h fun bs H1 g s5 q hG => ?_)
  obtain ⟨fp, wr, G, F, St, W, hst, htr, hI⟩ := hG
  refine Calls.spliced_nil ?_
  refine call_any_walkS (W.self 0 _ _ _ hst ⟨g, fp, wr, G, _, F, St, _, rfl, W, hst, htr, fun s' hmv => ?_⟩)
  obtain ⟨H2, hT2, J⟩ := hI s' hmv
  refine ⟨.bl _, H2, J, rfl, ?_⟩
  rw [range_any bs]
  exact q H2 hT2
end

/-- ints that are k -/
def eqVals (k : Int) : List (D × D) → Option (List Bool)
  | [] => some []
  | (_, .int i) :: r => (eqVals k r).map fun bs => (i == k) :: bs
  | _ :: _ => none
def dAnyEq (k : Int) (f : Env → Rs D) : Env → Rs D := fun ρ => (f ρ).bind fun d ρ1 => match d with
  | .dict ds => match eqVals k ds with
    | some bs => .ok (.bool (bs.any id)) ρ1
    | none => .bad
  | _ => .bad
def eqV (k : Int) : V → Option Bool
  | .int i => some (i == k)
  | _ => none
theorem eqVals_rp {K : Gs} {H : Hp} {M : Addr → Prop} {k : Int} : ∀ {ds : List (D × D)} {vs : List V} {bs : List Bool}, RpA K H M vs (ds.map (·.2)) → eqVals k ds = some bs → vs.map (eqV k) = bs.map some
  | [], _, _, r, e => by cases r; cases e; rfl
  | (a, d) :: ds, _, _, r, e => by
    cases r with
    | cons q r =>
      cases d with
      | int i =>
        obtain ⟨bs', e1, rfl⟩ := Option.map_eq_some_iff.mp (show (eqVals k ds).map (fun bs => (i == k) :: bs) = some _ from e)
        cases q
        rw [List.map_cons, List.map_cons, eqVals_rp r e1]
        rfl
      | _ => cases e
section
variable {X : Cx} {C : Cs}
theorem de_anyEq {c P : Addr} {e : Expr} {x : Str} {px p pos gpos apos cpos p1 p2 p3 : Pos} {scope : Scope} {k : Int} {kk j : Nat} {f : Env → Rs D} (hc : X.calm = true) (hr : Room kk X.A) (hg : Gl X "any") (hm : X.mg "any" = none) (TB : TabB X.base X.mg c P) (hP : P ∈ C.TB) (hcode : X.env.code = .ref c) (S : GenS X.env scope x) (h : DE X C e f)
    (hd : (x == ("__debug__" : Str)) = false := by decide)
    (hbase : attributeBase e "values" X.env (eval e X.env) = eval e X.env := by rfl) (hline : (apos.endLine == cpos.line) = true := by rfl)
    (hs : ∀ v, genFold (.Call (.Attribute e "values" apos) [] [] cpos) X.env v = pure v := by intro _; rfl)
    (he : starEach [.GeneratorExp (.Compare (.Name x p1) [.Eq] [.Constant (.int k) j p2] p3) [⟨.Name x px, .Call (.Attribute e "values" apos) [] [] cpos, [], 0⟩] scope gpos] X.env = (false, eval (.GeneratorExp (.Compare (.Name x p1) [.Eq] [.Constant (.int k) j p2] p3) [⟨.Name x px, .Call (.Attribute e "values" apos) [] [] cpos, [], 0⟩] scope gpos) X.env) :: starEach [] X.env := by rfl) :
    DE X C (.Call (.Name "any" p) [.GeneratorExp (.Compare (.Name x p1) [.Eq] [.Constant (.int k) j p2] p3) [⟨.Name x px, .Call (.Attribute e "values" apos) [] [] cpos, [], 0⟩] scope gpos] [] pos) (dAnyEq k f) := by
  obtain ⟨t, pt, qt⟩ := h.ex
  refine ⟨_, pe_anyV (pv := eqV k) hc hr hg hm TB hcode S pt (fun Pf pb hv => elt_eqI S.kind S.loc (fun i v hi => ?_) hd) hbase hline hs he, fun Y σ H M ρ Q hl s w => ?_⟩
  · obtain ⟨z, rz, e1⟩ := hv i v hi
    cases z with
    | int n =>
      obtain ⟨t, rfl⟩ := rz
      exact ⟨n, t, rfl, (Option.some.inj e1).symm⟩
    | _ => cases e1
  · refine qt Y σ H M ρ _ hl s (Wi.seq w fun d ρ1 v H1 M1 s1 st1 r1 w1 => ?_)
    cases d with
    | dict ds =>
      have w2 : Wi (gs X) C Y σ H1 M1 (RD (gs X)) (match eqVals k ds with
        | some bs => .ok (.bool (bs.any id)) ρ1
        | none => .bad) Q := w1
      clear w1
      cases ev : eqVals k ds with
      | none => rw [ev] at w2; exact w2.elim
      | some bs =>
        rw [ev] at w2
        obtain ⟨a, u, ks, vs, rfl, n, rd, V, k1, k2⟩ := dict_view r1
        obtain ⟨q, eP, tP⟩ := s1.tb.at_ P (by rw [hl.2]; exact hP)
        refine ⟨a, u, ks, vs, bs, rfl, V, rd, ⟨q, eP, tP⟩, eqVals_rp k2 ev, fun H2 hT => ?_⟩
        obtain ⟨s2, st2⟩ := s1.tabbed eP hT.1 hT.2
        exact w2 _ H2 M1 s2 st2 (.bl _)
    | _ => exact (show False from w1).elim
end
/-! ### the def rule with its code object known -/
structure FunC (K : PySem.W.Frag) (x qual : Str) (st : Stmt) (f : Addr) (fd : FuncData) (c : Addr) : Prop where
  ex : ∃ (oc : Value) (od : Option Addr) (dV kV doc pm : Value) (an : Option Addr) (ct : Value) (osl : Array (Option Value)),
    fd = PySem.W.fnOf x qual (defArgs st) (defBody st) (defScope st) dV kV doc pm an (.ref c) ct ∧ K.lookup f = some ⟨oc, od, .func fd, osl⟩ ∧ PySem.W.codeIn K (.ref c) qual = true
section
variable {P : Program} {w : World} {K : PySem.W.Frag} {mg : Str → Option Value} {base : Heap}
theorem fn_dataC {tb : List Addr} {x qual : Str} {st : Stmt} {f c : Addr} {fd : FuncData} {N ps : List Str} {k : Nat} {ln : Ln} {fk : Option Kd} {F : List D → Res} {g : Env → Rt} (U : FunC K x qual st f fd c) (S : FnScope N ps (defScope st)) (hln : ln.length = ps.length) (hN : ln.length ≤ N.length)
    (hb : ∀ (A : Around) (outer : List PySem.Env) (s : Shared) (H : Hp) (E : XK), Room k (A.deeper (envOfC qual (defScope st) s.heap.objs.size f (.ref c))) →
      DS (cxOf CX0 P w K mg base N qual (defScope st) f (.ref c) A outer s H E).nox ⟨fun _ _ _ => False, lsOf ln, tb⟩ (defBody st) g)
    (hF : ∀ ds d outs, F ds = .ok d outs → resOf ln fk (g (startE N.length ln ds)) = .ok d outs) (hX : ∀ ds c outs, F ds ≠ .exn c outs) :
    FnOk P w K mg base CX0 (k + 1) f fd ps (spF ⟨P, w, K⟩ tb ps.length ln fk F) := by
  obtain ⟨oc, od, dV, kV, doc, pm, an, ct, osl, rfl, lk, hcd⟩ := U.ex
  refine fn_of lk hcd S (fun vs H Q E h => h.1) fun A outer s H vs Q E hr h => ?_
  have hb' := hb A outer s H E hr

  obtain ⟨t, pt, q⟩ := fn_core hb' hln hN hF hX h
  exact ⟨t, pt.nox, q⟩
end
end DL
end

section
set_option Elab.async false
set_option autoImplicit false
set_option linter.all false
set_option maxRecDepth 100000
set_option maxHeartbeats 1000000
/-! DL15: short words for derivations. -/
namespace DL
open PySem PySem.Spec PyProof.Rows L2

def noX : Res → Res
  | .ok d o => .ok d o
  | _ => .bad
theorem noX_ne (r : Res) (c : Addr) (o : List D) : noX r ≠ .exn c o := by cases r <;> intro z <;> cases z
theorem noX_ok {r : Res} {d : D} {o : List D} (h : noX r = .ok d o) : r = .ok d o := by cases r <;> first | exact h | cases h
section
variable {P : Program} {w : World} {K : PySem.W.Frag} {mg : Str → Option Value} {base : Heap}
theorem cal_mk {tb : List Addr} {x : Str} {st : Stmt} {f : Addr} {fd : FuncData} {N ps : List Str} {k : Nat} {ln : Ln} {fk : Option Kd} {g : Env → Rt} (U : Fun K x x st f fd) (gS : mg x = some (.ref f)) (S : FnScope N ps (defScope st))
    (hb : ∀ (cdv : Value) (A : Around) (outer : List PySem.Env) (s : Shared) (H : Hp) (E : XK), Room k (A.deeper (envOfC x (defScope st) s.heap.objs.size f cdv)) →
      DS (cxOf CX0 P w K mg base N x (defScope st) f cdv A outer s H E).nox ⟨fun _ _ _ => False, lsOf ln, tb⟩ (defBody st) g)
    (hbind : ∀ (kV doc pm : Value) (an : Option Addr) (cdv ct : Value) (us : List Value), us.length = ps.length → bindArgs (PySem.W.fnOf x x (defArgs st) (defBody st) (defScope st) .none kV doc pm an cdv ct) ⟨us, []⟩ = pure (ps.zip us)) (hln : ln.length = ps.length := by rfl) (hN : ln.length ≤ N.length := by decide) :
    CalD P w K mg base tb (k + 1) x ln fk (fun ds => noX (resOf ln fk (g (startE N.length ln ds)))) :=
  ⟨f, fd, ps, fn_data U S hln hN hb (fun ds d o h => noX_ok h) (fun ds c o => noX_ne _ _ _), gS, U.kp, U.binds hbind, hln⟩
theorem cal_mkC {tb : List Addr} {x : Str} {st : Stmt} {f c : Addr} {fd : FuncData} {N ps : List Str} {k : Nat} {ln : Ln} {fk : Option Kd} {g : Env → Rt} (U : Fun K x x st f fd) (UC : FunC K x x st f fd c) (gS : mg x = some (.ref f)) (S : FnScope N ps (defScope st))
    (hb : ∀ (A : Around) (outer : List PySem.Env) (s : Shared) (H : Hp) (E : XK), Room k (A.deeper (envOfC x (defScope st) s.heap.objs.size f (.ref c))) →
      DS (cxOf CX0 P w K mg base N x (defScope st) f (.ref c) A outer s H E).nox ⟨fun _ _ _ => False, lsOf ln, tb⟩ (defBody st) g)
    (hbind : ∀ (kV doc pm : Value) (an : Option Addr) (cdv ct : Value) (us : List Value), us.length = ps.length → bindArgs (PySem.W.fnOf x x (defArgs st) (defBody st) (defScope st) .none kV doc pm an cdv ct) ⟨us, []⟩ = pure (ps.zip us)) (hln : ln.length = ps.length := by rfl) (hN : ln.length ≤ N.length := by decide) :
    CalD P w K mg base tb (k + 1) x ln fk (fun ds => noX (resOf ln fk (g (startE N.length ln ds)))) :=
  ⟨f, fd, ps, fn_dataC UC S hln hN hb (fun ds d o h => noX_ok h) (fun ds c o => noX_ne _ _ _), gS, U.kp, U.binds hbind, hln⟩
end
section
variable {X : Cx} {C : Cs} {e a b : Expr} {es : List Expr} {f : Env → Rs D} {fa fb : Env → Rs Arg} {fr : Env → Rs (List Arg)} {pos : Pos}
/-- names -/
theorem vr (i : Nat) {x : Str} (hN : X.N[i]? = some x := by rfl) (hv : Vis X.env.scope x := by first | exact Or.inl rfl | exact Or.inr (Or.inl rfl) | exact Or.inr (Or.inr rfl)) (hd : (x == ("__debug__" : Str)) = false := by decide) (hcd : (x == ("__classdict__" : Str)) = false := by decide) : DE X C (.Name x pos) (dVar i) := de_var hN hv hd hcd
theorem ow (i : Nat) {x : Str} (hN : X.N[i]? = some x := by rfl) (hv : Vis X.env.scope x := by first | exact Or.inl rfl | exact Or.inr (Or.inl rfl) | exact Or.inr (Or.inr rfl)) (hd : (x == ("__debug__" : Str)) = false := by decide) (hcd : (x == ("__classdict__" : Str)) = false := by decide) : DV X C (.Name x pos) (dOwn i) := dv_own hN hv hd hcd
theorem mv (i : Nat) {x : Str} (hN : X.N[i]? = some x := by rfl) (hv : Vis X.env.scope x := by first | exact Or.inl rfl | exact Or.inr (Or.inl rfl) | exact Or.inr (Or.inr rfl)) (hi : C.LS.contains i = false := by rfl) (hd : (x == ("__debug__" : Str)) = false := by decide) (hcd : (x == ("__classdict__" : Str)) = false := by decide) : DE X C (.Name x pos) (dMove i) := de_move hN hv hi hd hcd
theorem gn (nd : X.N.Nodup) (i : Nat) {x : Str} (hi : X.N[i]? = some x := by rfl) (hx : Loc X.env.scope x := by first | exact Or.inl rfl | exact Or.inr rfl) (hf : X.fn x = true ∨ X.env.scope.names.lookup x = some .local := by first | exact Or.inl rfl | exact Or.inr rfl) (hls : C.LS.contains i = false := by rfl) : DG X C (.Name x pos) [i] (gN i) := dg_name nd hi hx hf hls
/-- stores -/
theorem st (nd : X.N.Nodup) (i : Nat) {x : Str} {p : Pos} (he : DE X C e f) (hi : X.N[i]? = some x := by rfl) (hx : Loc X.env.scope x := by first | exact Or.inl rfl | exact Or.inr rfl) (hls : C.LS.contains i = false := by rfl) (hs : swapsWith e (some (.Name x p)) pos.line X.env = pure false := by rfl)
    (hf : X.fn x = true ∨ X.env.scope.names.lookup x = some .local := by first | exact Or.inl rfl | exact Or.inr rfl) : D1 X C (.Assign [.Name x p] e pos) (dSet i f) := d1_set nd hi hx hls he hs hf
theorem stF (nd : X.N.Nodup) (i : Nat) {k : Kd} {x : Str} {p : Pos} (he : DF X C k e f) (hi : X.N[i]? = some x := by rfl) (hx : Loc X.env.scope x := by first | exact Or.inl rfl | exact Or.inr rfl) (hls : C.LS.contains i = false := by rfl) (hs : swapsWith e (some (.Name x p)) pos.line X.env = pure false := by rfl)
    (hf : X.fn x = true ∨ X.env.scope.names.lookup x = some .local := by first | exact Or.inl rfl | exact Or.inr rfl) : D1 X C (.Assign [.Name x p] e pos) (dSetF i k f) := d1_setF nd hi hx hls he hs hf
/-! list(x) of a list, a tuple, a dict -/
def gListA : List D → Option D
  | [.dict ds] => some (.list (ds.map (·.1)))
  | ds => gList ds
def rListA (X : Cx) : List V → Hp → VK → Prop := fun xs H Q => rListV X xs H Q ∨ ∃ p ys, xs = [.ref p] ∧ (SqL X.K H p ys ∨ SqT X.K H p ys) ∧ ∀ l, H l = none → Q (.ref l) (upd H l (.lst ys))
theorem cr_listA (hc : X.calm = true) : CallR X (.type "list") (rListA X) := by
  intro pins s σ H vs us Q I r h
  rcases h with h | h
  · exact cr_listV hc pins s σ H vs us Q I r h
  · exact call_list_of pins s σ H vs us Q I r h
theorem cf_listA : CallF X .lst (rListA X) gListA := by
  intro H M vs ds z Q al h hg q
  unfold gListA at hg
  split at hg
  · exact .inl (cf_listD H M vs _ z Q al h hg q)
  · exact .inr (cf_list H M vs _ z Q al h hg q)
/-! dict(xs), read only -/
def gDictA (ds : List D) : Option D := match gDictK ds with
  | some d => some d
  | none => gDictN ds
def rDictA (X : Cx) : List V → Hp → VK → Prop := fun xs H Q => rDictK X xs H Q ∨ rDictN X xs H Q
theorem cr_dictA (hc : X.calm = true) (hu : X.A.units + 64 < cLine) : CallR X (.type "dict") (rDictA X) := by
  intro pins s σ H vs us Q I r h
  rcases h with h | h
  · exact call_dictP hc pins s σ H vs us Q I r h
  · exact cr_dictN hc hu pins s σ H vs us Q I r h
theorem cd_dictA : CallD X (rDictA X) gDictA := by
  intro H M vs ds z Q al h hg q
  unfold gDictA at hg
  have less : ∀ {p : Addr} b, M b → Mp M p b := fun b q => .inl q
  split at hg
  · rename_i d e
    cases hg
    exact .inl (cf_dictK H M vs ds _ Q al h e fun p o hp ow => q _ _ (same_new hp) (ow.rp less (notM' al hp)))
  · exact .inr (cf_dictN H M vs ds z Q al h hg fun p o hp ow => q _ _ (same_new hp) (ow.rp less (notM' al hp)))
where
  notM' {H : Hp} {M : Addr → Prop} {p : Addr} (al : ∀ a, M a → H a ≠ none) (h : H p = none) : ¬ M p := fun z => al p z h
/-! for x in anything that is data -/
def walkD : D → Option (List D)
  | .dict ds => some (ds.map (·.1))
  | d => itemsD d
def dItemsA (f : Env → Rs D) : Env → Rs (List D) := fun ρ => (f ρ).bind fun d ρ1 => opt (walkD d) ρ1
theorem di_any {tg : Expr} (h : DE X C e f) : DI X C tg e (dItemsA f) := by
  obtain ⟨t1, p1, q1⟩ := (di_seq (tg := tg) h).ex
  obtain ⟨t2, p2, q2⟩ := (di_keys (tg := tg) h).ex
  refine ⟨_, PI.or p1 p2, fun Y σ H M ρ R hl s w => ?_⟩
  unfold dItemsA at w
  cases ef : f ρ with
  | bad => rw [ef] at w; exact (show False from w).elim
  | exn c ρ1 =>
    refine .inl (q1 Y σ H M ρ R hl s ?_)
    unfold dItems
    rw [ef] at w ⊢
    exact w
  | ok d ρ1 =>
    rw [ef] at w
    have w' : Wi (gs X) C Y σ H M (RI (gs X)) (opt (walkD d) ρ1) R := w
    cases d with
    | dict ds =>
      refine .inr (q2 Y σ H M ρ R hl s ?_)
      unfold dWalk
      rw [ef]
      exact w'
    | list ds =>
      refine .inl (q1 Y σ H M ρ R hl s ?_)
      unfold dItems
      rw [ef]
      exact w'
    | tuple ds =>
      refine .inl (q1 Y σ H M ρ R hl s ?_)
      unfold dItems
      rw [ef]
      exact w'
    | str ds =>
      refine .inl (q1 Y σ H M ρ R hl s ?_)
      unfold dItems
      rw [ef]
      exact w'
    | _ => exact w'.elim
end

def gxC (sc : Scope) (x : Str) : Bool := decide (sc.kind = .function) && !sc.isCoroutine && sc.names.all (fun y => !decide (y.2 = .cell) && !decide (y.2 = .free)) && decide (sc.names.lookup (".0" : Str) = some .local) && decide (sc.names.lookup x = some .local)
theorem gx_mk {env : PySem.Env} {sc : Scope} {x : Str} (h : gxC sc x = true) : GxR.GenS env sc x := by
  unfold gxC at h
  simp only [Bool.and_eq_true, decide_eq_true_eq, List.all_eq_true, Bool.not_eq_true', decide_eq_false_iff_not] at h
  obtain ⟨⟨⟨⟨h1, h2⟩, h3⟩, h4⟩, h5⟩ := h
  exact ⟨h1, h2, fun y hy => (h3 y hy).1, h4, h5, fun y hy e => absurd e (h3 y hy).2⟩

/-! == and != of lists that are not as long -/
def rLen2 (k : Bool) (K : PySem.W.Frag) : R2 := fun x y H Q => ∃ a b xs ys, x = .ref a ∧ y = .ref b ∧ SqL K H a xs ∧ SqL K H b ys ∧ xs.length ≠ ys.length ∧ Q (.bl k) H
def dEqA (d e : D) : Option D := match dEq d e with
  | some z => some z
  | none => match d, e with
    | .list xs, .list ys => if xs.length ≠ ys.length then some (.bool false) else none
    | _, _ => none
def dNeA (d e : D) : Option D := match dNe d e with
  | some z => some z
  | none => match d, e with
    | .list xs, .list ys => if xs.length ≠ ys.length then some (.bool true) else none
    | _, _ => none
section
variable {X : Cx}
theorem op_eqLen (hu : X.A.units + 64 < cLine) : OpR X (compareOp .Eq) (rLen2 false X.K) := by
  intro pins s σ H x y v u Q I rx ry h
  obtain ⟨a, b, xs, ys, rfl, rfl, ha, hb, hne, q⟩ := h
  cases rx
  cases ry
  obtain ⟨its, r, pl, _⟩ := I.list ha
  obtain ⟨its2, r2, pl2, _⟩ := I.list hb
  have l1 := r.length
  have l2 := r2.length
  exact PySem.EqBoolInt.of_rc (SeqAt.RcAt.lists_lengths pl.isList pl2.isList (by simp; omega) (by omega)) ⟨.bl _, H, I, rfl, q⟩
theorem op_neLen (hu : X.A.units + 64 < cLine) : OpR X (compareOp .NotEq) (rLen2 true X.K) := by
  intro pins s σ H x y v u Q I rx ry h
  obtain ⟨a, b, xs, ys, rfl, rfl, ha, hb, hne, q⟩ := h
  cases rx
  cases ry
  obtain ⟨its, r, pl, _⟩ := I.list ha
  obtain ⟨its2, r2, pl2, _⟩ := I.list hb
  have l1 := r.length
  have l2 := r2.length
  exact PySem.EqBoolInt.of_rcne (SeqAt.RcNeAt.lists_lengths pl.isList pl2.isList (by simp; omega) (by omega)) ⟨.bl _, H, I, rfl, q⟩
theorem or_eqA (hu : X.A.units + 64 < cLine) : OpR X (compareOp .Eq) (orR (rEqD X.K) (rLen2 false X.K)) := (op_eqD hu).or (op_eqLen hu)
theorem or_neA (hu : X.A.units + 64 < cLine) : OpR X (compareOp .NotEq) (orR (rNeD X.K) (rLen2 true X.K)) := (op_neD hu).or (op_neLen hu)
theorem od_eqA : OpD X (orR (rEqD X.K) (rLen2 false X.K)) dEqA := by
  intro H M x y d e z Q al hx hy hg q
  unfold dEqA at hg
  split at hg
  · rename_i z' e1
    cases hg
    exact .inl (od_eq H M x y d e _ Q al hx hy e1 q)
  · split at hg
    · split at hg
      · rename_i hne
        cases hg
        obtain ⟨a, vs, rfl, ea, _, ra⟩ := hx.seqL
        obtain ⟨b, ws, rfl, eb, _, rb⟩ := hy.seqL
        exact .inr ⟨a, b, vs, ws, rfl, rfl, ea, eb, by rw [ra.length, rb.length]; exact hne, q _ _ (Same.refl _) (.bl _)⟩
      · cases hg
    · cases hg
theorem od_neA : OpD X (orR (rNeD X.K) (rLen2 true X.K)) dNeA := by
  intro H M x y d e z Q al hx hy hg q
  unfold dNeA at hg
  split at hg
  · rename_i z' e1
    cases hg
    exact .inl (od_ne H M x y d e _ Q al hx hy e1 q)
  · split at hg
    · split at hg
      · rename_i hne
        cases hg
        obtain ⟨a, vs, rfl, ea, _, ra⟩ := hx.seqL
        obtain ⟨b, ws, rfl, eb, _, rb⟩ := hy.seqL
        exact .inr ⟨a, b, vs, ws, rfl, rfl, ea, eb, by rw [ra.length, rb.length]; exact hne, q _ _ (Same.refl _) (.bl _)⟩
      · cases hg
    · cases hg
end
/-! what they give -/
theorem shaped_int (a : Int) : SeqAt.shaped (.int a) = true := by simp [SeqAt.shaped, PyData.canLay0, PyData.depth]
theorem dEqA_int (a b : Int) : dEqA (.int a) (.int b) = some (.bool (decide (a = b))) := by
  unfold dEqA dEq
  rw [if_pos ⟨shaped_int a, shaped_int b⟩]
  simp [PyData.eqv]
  exact Bool.beq_eq_decide_eq a b
theorem dNeA_int (a b : Int) : dNeA (.int a) (.int b) = some (.bool (!decide (a = b))) := by
  unfold dNeA dNe
  rw [if_pos ⟨shaped_int a, shaped_int b⟩]
  simp [PyData.eqv]
  exact Bool.beq_eq_decide_eq a b
end DL
end

section
set_option Elab.async false
set_option autoImplicit false
set_option linter.all false
set_option maxRecDepth 100000
set_option maxHeartbeats 1000000
/-! DL16: from the head's facts to the law's promise. -/
namespace DL
open PySem PySem.Spec PyProof.Rows L2
theorem funC_of {K : PySem.W.Frag} {x qual : Str} {st : Stmt} {p : He.Defn} {fd : FuncData} {dvs : List V} {kws : List (Str × V)} (F : FunD K x qual (defArgs st) (defBody st) (defScope st) dvs kws (He.fAd K p) fd) : FunC K x qual st (He.fAd K p) fd (He.codeOf K p) := by
  obtain ⟨oc, od, dV, kV, doc, pm, an, cdv, ct, osl, e, l, cI, _⟩ := F.ex
  obtain ⟨c0, rfl⟩ := He.codeIn_ref cI
  have e2 : He.codeOf K p = c0 := by
    subst e
    exact He.codeOf_eq l rfl
  rw [e2]
  exact ⟨oc, od, dV, kV, doc, pm, an, ct, osl, e, l, cI⟩
theorem trip0 : TriplesOk (#[] : Array Value).toList := by simp [TriplesOk]
theorem fun_ofD {K : PySem.W.Frag} {x qual : Str} {st : Stmt} {f : Addr} {fd : FuncData} {kws : List (Str × V)} (F : FunD K x qual (defArgs st) (defBody st) (defScope st) [] kws f fd) : Fun K x qual st f fd := by
  obtain ⟨oc, od, dV, kV, doc, pm, an, cdv, ct, osl, e, l, c, hd, _⟩ := F.ex
  rcases hd with ⟨_, e2⟩ | ⟨e2, _⟩
  · subst e2
    exact ⟨⟨oc, od, kV, doc, pm, an, cdv, ct, osl, e, l, c⟩, F.kp⟩
  · exact absurd rfl e2
/-- the law's promise is what the row asks -/
theorem law_sp {G : Gs} {tb : List Addr} {F : List D → Res} {H : Hp} {a : Addr} {ns : List Int} {outs : List D} (hF : F [.list (ns.map .int)] = .ok (.bool true) outs) (hT : ∀ P ∈ tb, H P = some (.tbl #[])) (hS : SqL G.K H a (ns.map V.int)) (hl : ns.length ≤ sizeLine) :
    spF G tb 1 [none] none F [.ref a] H (fun v _ => v = .bl true) (fun _ _ _ => False) := by
  have hr : Rp G H (fun _ => False) (.ref a) (.list (ns.map .int)) := by
    rcases hS with h | h
    · exact .lst h (fun z => z) (by rw [List.length_map]; exact hl) (.ofInts ns)
    · exact .lstC (.inr h) (.ofInts ns)
  refine ⟨rfl, fun _ => False, [.list (ns.map .int)], fun _ z => z.elim, ⟨fun b q e => ⟨q, e⟩, fun P hP => ⟨#[], hT P hP, trip0⟩⟩, .val hr .nil, List.nodup_nil, ?_⟩
  rw [hF]
  intro v H' _ _ _ _ ro
  cases (show Rp G H' _ v (.bool true) from ro)
  rfl
end DL
end

section
set_option Elab.async false
set_option autoImplicit false
set_option linter.all false
set_option maxRecDepth 100000
set_option maxHeartbeats 0
/-! k47: what each def computes, by data. -/
namespace K47
open PySem PySem.Spec PyProof.Rows L2 DL
abbrev rw_ := PySem.Challenge.rw_arraysaligned_k47_whole_places_that_neve
def top (i : Nat) : Stmt := PySem.Challenge.pw_arraysaligned_k47_whole_places_that_neve.main.body.getD i (.Pass ⟨0, 0, 0, 0⟩)
/-! ### span_of -/
def N_span_of : List Str := ["form", "bounds", "low", "high", "name", "factor", "far"]
theorem sc_span_of : FnScope N_span_of ["form", "bounds"] (defScope (top 2)) := ⟨rfl, rfl, rfl, by decide +kernel, rfl, by decide +kernel, by decide +kernel⟩
def b_span_of_0 : DL.Env → Rt :=
  dSeq (dSet 6 (dBin dMul (toA (dVar 5)) (toA (dBin dSub (toA (dBin dIx (toA (dVar 1)) (toA (dVar 4)))) (toA (dC (.int 1)))))))
      (dPar 2 3 (dCons (toA (dBin dAdd (toA (dVar 2)) (toA (dCallB gMin2 (dCons (toA (dC (.int 0))) (dCons (toA (dVar 6)) (dNil))))))) (dCons (toA (dBin dAdd (toA (dVar 3)) (toA (dCallB gMax2 (dCons (toA (dC (.int 0))) (dCons (toA (dVar 6)) (dNil))))))) (dNil))))
def g_span_of : DL.Env → Rt :=
  dSeq (dPar 2 3 (dCons (toA (dBin dIx (toA (dVar 0)) (toA (dC (.int 0))))) (dCons (toA (dBin dIx (toA (dVar 0)) (toA (dC (.int 0))))) (dNil))))
      (dSeq (dFor (dItemsA (dBin dIx (toA (dVar 0)) (toA (dC (.int 1))))) (gT (gsCons (gN 4) (gsCons (gN 5) (gsNil))) 2) (b_span_of_0) [4, 5, 6])
      (dRet (dTup (dCons (toA (dVar 2)) (dCons (toA (dVar 3)) (dNil))))))
theorem ds_span_of {P : Program} {w : World} {K : PySem.W.Frag} {mg : Str → Option Value} {base : Heap} {tb : List Addr} (m_max : mg "max" = none) (m_min : mg "min" = none) (f : Addr) (cdv : Value) (A : Around) (outer : List PySem.Env) (s : Shared) (H : Hp) (E : XK) (hr : Room 0 (A.deeper (envOfC "span_of" (defScope (top 2)) s.heap.objs.size f cdv))) :
    DS (cxOf CX0 P w K mg base N_span_of "span_of" (defScope (top 2)) f cdv A outer s H E).nox ⟨fun _ _ _ => False, lsOf [none, none], tb⟩ (defBody (top 2)) (g_span_of) := by
  have S := sc_span_of
  unfold g_span_of
  exact ds_cons (d1_par (i := 2) (j := 3) (by rfl) S.nd (by rfl) (by rfl) (by decide) (by rfl) (by rfl) (by rfl) (by rfl) (da_cons ((de_ix (or_ix (hu65 hr)) od_ix ((vr 0).dv) ((de_int).dv) (fun _ _ => rfl)).dv) (da_cons ((de_ix (or_ix (hu65 hr)) od_ix ((vr 0).dv) ((de_int).dv) (fun _ _ => rfl)).dv) (da_nil))) (by rfl))
      (ds_cons (d1_for (ix := [4, 5]) [4, 5, 6] (by rfl) PassesOwn.never (by rfl) (di_any (de_ix (or_ix (hu65 hr)) od_ix ((vr 0).dv) ((de_int).dv) (fun _ _ => rfl))) (dg_tup (by rfl) (dgs_cons (gn S.nd 4) (dgs_cons (gn S.nd 5) (dgs_nil)))) (ds_cons (DL.st S.nd 6 (de_bin or_mul od_mul ((vr 5).dv) ((de_bin op_sub od_sub ((de_ix (or_ix (hu65 hr)) od_ix ((vr 1).dv) ((vr 4).dv) (fun _ _ => rfl)).dv) ((de_int).dv)).dv)))
      (ds_one (d1_par (i := 2) (j := 3) (by rfl) S.nd (by rfl) (by rfl) (by decide) (by rfl) (by rfl) (by rfl) (by rfl) (da_cons ((de_bin or_add od_add ((vr 2).dv) ((de_callB (call_min2 (by rfl)) cd_min2 (by rfl) m_min (by decide +kernel) (da_cons ((de_int).dv) (da_cons ((vr 6).dv) (da_nil)))).dv)).dv) (da_cons ((de_bin or_add od_add ((vr 3).dv) ((de_callB (call_max2 (by rfl)) cd_max2 (by rfl) m_max (by decide +kernel) (da_cons ((de_int).dv) (da_cons ((vr 6).dv) (da_nil)))).dv)).dv) (da_nil))) (by rfl)))))
      (ds_one (d1_ret (de_tup (da_cons ((vr 2).dv) (da_cons ((vr 3).dv) (da_nil)))))))
def F_span_of : List D → Res := fun ds => noX (resOf [none, none] none (g_span_of (startE 7 [none, none] ds)))
theorem cal_span_of {P : Program} {w : World} {K : PySem.W.Frag} {mg : Str → Option Value} {base : Heap} {tb : List Addr} {f : Addr} {fd : FuncData} (U : Fun K "span_of" "span_of" (top 2) f fd) (gS : mg "span_of" = some (.ref f)) (m_max : mg "max" = none) (m_min : mg "min" = none) : CalD P w K mg base tb 1 "span_of" [none, none] none F_span_of :=
  cal_mk U gS sc_span_of (fun cdv A outer s H E hr => ds_span_of m_max m_min f cdv A outer s H E hr) (fun _ _ _ _ _ _ us hl => match us, hl with | [_, _], _ => rfl)

/-! ### never_meet -/
def N_never_meet : List Str := ["one", "other", "bounds", "first", "second", "common", "_", "factor", "apart", "low", "high", "least", "most"]
theorem sc_never_meet : FnScope N_never_meet ["one", "other", "bounds"] (defScope (top 3)) := ⟨rfl, rfl, rfl, by decide +kernel, rfl, by decide +kernel, by decide +kernel⟩
def b_never_meet_0 (F_span_of : List D → Res) : DL.Env → Rt :=
  dSet 5 (dCallB gGcd (dCons (toA (dVar 5)) (dCons (toA (dVar 7)) (dNil))))
def b_never_meet_1 (F_span_of : List D → Res) : DL.Env → Rt :=
  dSeq (dSet 5 (dC (.int 0)))
      (dSeq (dFor (dItemsA (dTup (dStar (toA (dBin dIx (toA (dVar 3)) (toA (dC (.int 1))))) (dStar (toA (dBin dIx (toA (dVar 4)) (toA (dC (.int 1))))) (dNil))))) (gT (gsCons (gN 6) (gsCons (gN 7) (gsNil))) 2) ((b_never_meet_0 F_span_of)) [6, 7])
      (dSeq (dSet 8 (dBin dSub (toA (dBin dIx (toA (dVar 3)) (toA (dC (.int 0))))) (toA (dBin dIx (toA (dVar 4)) (toA (dC (.int 0)))))))
      (dSeq (dIf (dAndT (dBinT dNeA (toA (dVar 8)) (toA (dC (.int 0)))) (dOrT (dBinT dEqA (toA (dVar 5)) (toA (dC (.int 0)))) (dBinT dNeA (toA (dBin dMod (toA (dVar 8)) (toA (dVar 5)))) (toA (dC (.int 0)))))) (dRet (dC (.bool true))) (dNext))
      (dSeq (dAsg (dTup (dCons (toA (dCall [none, none] F_span_of (dCons (toA (dVar 3)) (dCons (toA (dVar 2)) (dNil))))) (dCons (toA (dCall [none, none] F_span_of (dCons (toA (dVar 4)) (dCons (toA (dVar 2)) (dNil))))) (dNil)))) (gT (gsCons (gT (gsCons (gN 9) (gsCons (gN 10) (gsNil))) 2) (gsCons (gT (gsCons (gN 11) (gsCons (gN 12) (gsNil))) 2) (gsNil))) 2))
      (dIf (dOrT (dBinT dLt (toA (dVar 10)) (toA (dVar 11))) (dBinT dLt (toA (dVar 12)) (toA (dVar 9)))) (dRet (dC (.bool true))) (dNext))))))
def g_never_meet (F_span_of : List D → Res) : DL.Env → Rt :=
  dSeq (dIf (dTruth (toA (dAnyEq 0 (dVar 2)))) (dRet (dC (.bool true))) (dNext))
      (dSeq (dFor (dZip (dCons (toA (dVar 0)) (dCons (toA (dVar 1)) (dNil)))) (gT (gsCons (gN 3) (gsCons (gN 4) (gsNil))) 2) ((b_never_meet_1 F_span_of)) [3, 4, 5, 6, 7, 8, 9, 10, 11, 12])
      (dRet (dC (.bool false))))
theorem ds_never_meet {P : Program} {w : World} {K : PySem.W.Frag} {mg : Str → Option Value} {base : Heap} {tb0 : List Addr} {c T : Addr} (TB : GxR.TabB base mg c T) (m_any : mg "any" = none) (m_gcd : mg "gcd" = some (.builtin "math.gcd")) (m_zip : mg "zip" = none) {F_span_of : List D → Res} (c_span_of : CalD P w K mg base (T :: tb0) 1 "span_of" [none, none] none F_span_of) (f : Addr) (A : Around) (outer : List PySem.Env) (s : Shared) (H : Hp) (E : XK) (hr : Room 1 (A.deeper (envOfC "never_meet" (defScope (top 3)) s.heap.objs.size f (.ref c)))) :
    DS (cxOf CX0 P w K mg base N_never_meet "never_meet" (defScope (top 3)) f (.ref c) A outer s H E).nox ⟨fun _ _ _ => False, lsOf [none, none, none], T :: tb0⟩ (defBody (top 3)) (g_never_meet F_span_of) := by
  have S := sc_never_meet
  unfold g_never_meet
  exact ds_cons (d1_if (dt_truth ((de_anyEq (by rfl) hr (by rfl) m_any TB List.mem_cons_self (by rfl) (gx_mk (by kernel_rfl)) (vr 2)).dv)) (ds_one (d1_ret (de_bl))) (ds_nil))
      (ds_cons (d1_for (ix := [3, 4]) [3, 4, 5, 6, 7, 8, 9, 10, 11, 12] (by rfl) PassesOwn.never (by rfl) (di_zip (by rfl) m_zip (da_cons ((vr 0).dv) (da_cons ((vr 1).dv) (da_nil)))) (dg_tup (by rfl) (dgs_cons (gn S.nd 3) (dgs_cons (gn S.nd 4) (dgs_nil)))) (ds_cons (DL.st S.nd 5 (de_int))
      (ds_cons (d1_for (ix := [6, 7]) [6, 7] (by rfl) PassesOwn.never (by rfl) (di_any (de_tup (da_star ((de_ix (or_ix (hu65 hr)) od_ix ((vr 3).dv) ((de_int).dv) (fun _ _ => rfl)).dv) (da_star ((de_ix (or_ix (hu65 hr)) od_ix ((vr 4).dv) ((de_int).dv) (fun _ _ => rfl)).dv) (da_nil))))) (dg_tup (by rfl) (dgs_cons (gn S.nd 6) (dgs_cons (gn S.nd 7) (dgs_nil)))) (ds_one (DL.st S.nd 5 (de_callFun cr_gcd cd_gcd (by rfl) m_gcd (da_cons ((vr 5).dv) (da_cons ((vr 7).dv) (da_nil)))))))
      (ds_cons (DL.st S.nd 8 (de_bin op_sub od_sub ((de_ix (or_ix (hu65 hr)) od_ix ((vr 3).dv) ((de_int).dv) (fun _ _ => rfl)).dv) ((de_ix (or_ix (hu65 hr)) od_ix ((vr 4).dv) ((de_int).dv) (fun _ _ => rfl)).dv)))
      (ds_cons (d1_if ((dw_and (dt_cmp (or_neA (hu64 hr)) od_neA ((vr 8).dv) ((de_int).dv) (nomark _)) (dw_and1 ((dw_or (dt_cmp (or_eqA (hu64 hr)) od_eqA ((vr 5).dv) ((de_int).dv) (nomark _)) (dw_or1 (dt_cmp (or_neA (hu64 hr)) od_neA ((de_bin op_modN od_mod ((vr 8).dv) ((vr 5).dv)).dv) ((de_int).dv) (nomark _)))).dt))).dt) (ds_one (d1_ret (de_bl))) (ds_nil))
      (ds_cons (d1_asg (de_tup (da_cons ((de_call c_span_of hr (by decide) (by rfl) (da_cons ((vr 3).dv) (da_cons ((vr 2).dv) (da_nil)))).dv) (da_cons ((de_call c_span_of hr (by decide) (by rfl) (da_cons ((vr 4).dv) (da_cons ((vr 2).dv) (da_nil)))).dv) (da_nil)))) (dg_tup (by rfl) (dgs_cons (dg_tup (by rfl) (dgs_cons (gn S.nd 9) (dgs_cons (gn S.nd 10) (dgs_nil)))) (dgs_cons (dg_tup (by rfl) (dgs_cons (gn S.nd 11) (dgs_cons (gn S.nd 12) (dgs_nil)))) (dgs_nil)))))
      (ds_one (d1_if ((dw_or (dt_cmp or_lt od_lt ((vr 10).dv) ((vr 11).dv) (nomark _)) (dw_or1 (dt_cmp or_lt od_lt ((vr 12).dv) ((vr 9).dv) (nomark _)))).dt) (ds_one (d1_ret (de_bl))) (ds_nil)))))))))
      (ds_one (d1_ret (de_bl))))
def F_never_meet : List D → Res := fun ds => noX (resOf [none, none, none] none (g_never_meet F_span_of (startE 13 [none, none, none] ds)))
theorem cal_never_meet {P : Program} {w : World} {K : PySem.W.Frag} {mg : Str → Option Value} {base : Heap} {tb0 : List Addr} {c T f : Addr} {fd : FuncData} (TB : GxR.TabB base mg c T) (U : Fun K "never_meet" "never_meet" (top 3) f fd) (UC : FunC K "never_meet" "never_meet" (top 3) f fd c) (gS : mg "never_meet" = some (.ref f)) (m_any : mg "any" = none) (m_gcd : mg "gcd" = some (.builtin "math.gcd")) (m_zip : mg "zip" = none) (c_span_of : CalD P w K mg base (T :: tb0) 1 "span_of" [none, none] none F_span_of) : CalD P w K mg base (T :: tb0) 2 "never_meet" [none, none, none] none F_never_meet :=
  cal_mkC U UC gS sc_never_meet (fun A outer s H E hr => ds_never_meet TB m_any m_gcd m_zip c_span_of f A outer s H E hr) (fun _ _ _ _ _ _ us hl => match us, hl with | [_, _, _], _ => rfl)

/-! ### _law_draws -/
def N__law_draws : List Str := ["script", "draws", "spot", "number", "first", "k", "seed"]
theorem sc__law_draws : FnScope N__law_draws ["script"] (defScope (top 5)) := ⟨rfl, rfl, rfl, by decide +kernel, rfl, by decide +kernel, by decide +kernel⟩
def b__law_draws_0 : DL.Env → Rt :=
  dIf (dBinT dGt (toA (dVar 3)) (toA (dC (.int 0)))) (dSeq (dDrop (dMt 1 mAppend (dCons (toA (dBin dMod (toA (dCallB gInt (dCons (toA (dVar 3)) (dNil)))) (toA (dC (.int 997))))) (dNil))))
      (dSet 3 (dBin dFdiv (toA (dVar 3)) (toA (dC (.int 997)))))) (dNext)
def b__law_draws_1 : DL.Env → Rt :=
  dSeq (dSet 3 (dCallB gAbs (dCons (toA (dVar 2)) (dNil))))
      (dSeq (dIf (dBinT dLt (toA (dVar 3)) (toA (dBin dPow (toA (dC (.int 10))) (toA (dC (.int 18)))))) (dSeq (dSet 4 (dBin dMod (toA (dCallB gInt (dCons (toA (dBin dAdd (toA (dBin dMul (toA (dVar 3)) (toA (dC (.int 48271))))) (toA (dC (.int 11))))) (dNil)))) (toA (dC (.int 2147483647)))))
      (dSeq (dDrop (dMt 1 mAppend (dCons (toA (dBin dMod (toA (dCallB gInt (dCons (toA (dBin dAdd (toA (dBin dMul (toA (dVar 4)) (toA (dC (.int 69621))))) (toA (dVar 3)))) (dNil)))) (toA (dC (.int 2147483629))))) (dNil))))
      (dSeq (dDrop (dMt 1 mAppend (dCons (toA (dBin dMod (toA (dCallB gInt (dCons (toA (dBin dAdd (toA (dVar 4)) (toA (dBin dFdiv (toA (dVar 3)) (toA (dC (.int 7))))))) (dNil)))) (toA (dC (.int 1000003))))) (dNil))))
      (dSet 3 (dC (.int 0)))))) (dNext))
      (dFor (dRange1 (dCons (toA (dC (.int 60))) (dNil))) (gN 5) (b__law_draws_0) [5]))
def b__law_draws_2 : DL.Env → Rt :=
  dSeq (dSet 6 (dBin dMod (toA (dCallB gInt (dCons (toA (dBin dAdd (toA (dBin dMul (toA (dVar 6)) (toA (dC (.int 48271))))) (toA (dC (.int 69621))))) (dNil)))) (toA (dC (.int 2147483647)))))
      (dDrop (dMt 1 mAppend (dCons (toA (dBin dFdiv (toA (dVar 6)) (toA (dC (.int 5))))) (dNil))))
def g__law_draws : DL.Env → Rt :=
  dSeq (dSetF 1 .lst (dLst (dNil)))
      (dSeq (dFor (dItemsA (dVar 0)) (gN 2) (b__law_draws_1) [2, 3, 4, 5])
      (dSeq (dSet 6 (dC (.int 1)))
      (dSeq (dIf (dBinT dGt (toA (dCallB gLen (dCons (toA (dVar 0)) (dNil)))) (toA (dC (.int 0)))) (dSet 6 (dBin dAdd (toA (dC (.int 1))) (toA (dCallB gAbs (dCons (toA (dBin dIx (toA (dVar 0)) (toA (dC (.int 0))))) (dNil)))))) (dNext))
      (dSeq (dFor (dRange1 (dCons (toA (dC (.int 900))) (dNil))) (gN 5) (b__law_draws_2) [5])
      (dRetF .lst (dListRev (dOwn 1)))))))
theorem ds__law_draws {P : Program} {w : World} {K : PySem.W.Frag} {mg : Str → Option Value} {base : Heap} {tb : List Addr} (m_abs : mg "abs" = none) (m_int : mg "int" = none) (m_range : mg "range" = none) (m_len : mg "len" = none) (m_list : mg "list" = none) (m_reversed : mg "reversed" = none) (f : Addr) (cdv : Value) (A : Around) (outer : List PySem.Env) (s : Shared) (H : Hp) (E : XK) (hr : Room 0 (A.deeper (envOfC "_law_draws" (defScope (top 5)) s.heap.objs.size f cdv))) :
    DS (cxOf CX0 P w K mg base N__law_draws "_law_draws" (defScope (top 5)) f cdv A outer s H E).nox ⟨fun _ _ _ => False, lsOf [none], tb⟩ (defBody (top 5)) (g__law_draws) := by
  have S := sc__law_draws
  unfold g__law_draws
  exact ds_cons (stF S.nd 1 (df_lst (da_nil)))
      (ds_cons (d1_for (ix := [2]) [2, 3, 4, 5] (by rfl) PassesOwn.never (by rfl) (di_any (vr 0)) (gn S.nd 2) (ds_cons (DL.st S.nd 3 (de_callB call_abs cd_abs (by rfl) m_abs (by decide +kernel) (da_cons ((vr 2).dv) (da_nil))))
      (ds_cons (d1_if (dt_cmp or_lt od_lt ((vr 3).dv) ((de_bin op_pow od_pow ((de_int).dv) ((de_int).dv)).dv) (nomark _)) (ds_cons (DL.st S.nd 4 (de_bin op_modN od_mod ((de_callTy call_int1 cd_int (by rfl) m_int (by decide +kernel) (da_cons ((de_bin or_add od_add ((de_bin or_mul od_mul ((vr 3).dv) ((de_int).dv)).dv) ((de_int).dv)).dv) (da_nil))).dv) ((de_int).dv)))
      (ds_cons (d1_expr (de_mt PySem.F.slot_list_append PySem.F.type_list_append mt_append md_append (i := 1) (by rfl) (by first | exact Or.inl (by rfl) | exact Or.inr (Or.inl rfl) | exact Or.inr (Or.inr rfl)) (da_cons ((de_bin op_modN od_mod ((de_callTy call_int1 cd_int (by rfl) m_int (by decide +kernel) (da_cons ((de_bin or_add od_add ((de_bin or_mul od_mul ((vr 4).dv) ((de_int).dv)).dv) ((vr 3).dv)).dv) (da_nil))).dv) ((de_int).dv)).dv) (da_nil))))
      (ds_cons (d1_expr (de_mt PySem.F.slot_list_append PySem.F.type_list_append mt_append md_append (i := 1) (by rfl) (by first | exact Or.inl (by rfl) | exact Or.inr (Or.inl rfl) | exact Or.inr (Or.inr rfl)) (da_cons ((de_bin op_modN od_mod ((de_callTy call_int1 cd_int (by rfl) m_int (by decide +kernel) (da_cons ((de_bin or_add od_add ((vr 4).dv) ((de_bin or_fdiv od_fdiv ((vr 3).dv) ((de_int).dv)).dv)).dv) (da_nil))).dv) ((de_int).dv)).dv) (da_nil))))
      (ds_one (DL.st S.nd 3 (de_int)))))) (ds_nil))
      (ds_one (d1_for (ix := [5]) [5] (by rfl) PassesOwn.never (by rfl) (di_range1 (by rfl) m_range (da_cons ((de_int).dv) (da_nil))) (gn S.nd 5) (ds_one (d1_if (dt_cmp op_gt od_gt ((vr 3).dv) ((de_int).dv) (nomark _)) (ds_cons (d1_expr (de_mt PySem.F.slot_list_append PySem.F.type_list_append mt_append md_append (i := 1) (by rfl) (by first | exact Or.inl (by rfl) | exact Or.inr (Or.inl rfl) | exact Or.inr (Or.inr rfl)) (da_cons ((de_bin op_modN od_mod ((de_callTy call_int1 cd_int (by rfl) m_int (by decide +kernel) (da_cons ((vr 3).dv) (da_nil))).dv) ((de_int).dv)).dv) (da_nil))))
      (ds_one (DL.st S.nd 3 (de_bin or_fdiv od_fdiv ((vr 3).dv) ((de_int).dv))))) (ds_nil))))))))
      (ds_cons (DL.st S.nd 6 (de_int))
      (ds_cons (d1_if (dt_cmp op_gt od_gt ((de_callB call_len cd_len (by rfl) m_len (by decide +kernel) (da_cons ((vr 0).dv) (da_nil))).dv) ((de_int).dv) (nomark _)) (ds_one (DL.st S.nd 6 (de_bin or_add od_add ((de_int).dv) ((de_callB call_abs cd_abs (by rfl) m_abs (by decide +kernel) (da_cons ((de_ix (or_ix (hu65 hr)) od_ix ((vr 0).dv) ((de_int).dv) (fun _ _ => rfl)).dv) (da_nil))).dv)))) (ds_nil))
      (ds_cons (d1_for (ix := [5]) [5] (by rfl) PassesOwn.never (by rfl) (di_range1 (by rfl) m_range (da_cons ((de_int).dv) (da_nil))) (gn S.nd 5) (ds_cons (DL.st S.nd 6 (de_bin op_modN od_mod ((de_callTy call_int1 cd_int (by rfl) m_int (by decide +kernel) (da_cons ((de_bin or_add od_add ((de_bin or_mul od_mul ((vr 6).dv) ((de_int).dv)).dv) ((de_int).dv)).dv) (da_nil))).dv) ((de_int).dv)))
      (ds_one (d1_expr (de_mt PySem.F.slot_list_append PySem.F.type_list_append mt_append md_append (i := 1) (by rfl) (by first | exact Or.inl (by rfl) | exact Or.inr (Or.inl rfl) | exact Or.inr (Or.inr rfl)) (da_cons ((de_bin or_fdiv od_fdiv ((vr 6).dv) ((de_int).dv)).dv) (da_nil)))))))
      (ds_one (d1_retF (df_listRev (by rfl) (by rfl) m_list (by rfl) m_reversed (ow 1))))))))
def F__law_draws : List D → Res := fun ds => noX (resOf [none] (some .lst) (g__law_draws (startE 7 [none] ds)))
theorem cal__law_draws {P : Program} {w : World} {K : PySem.W.Frag} {mg : Str → Option Value} {base : Heap} {tb : List Addr} {f : Addr} {fd : FuncData} (U : Fun K "_law_draws" "_law_draws" (top 5) f fd) (gS : mg "_law_draws" = some (.ref f)) (m_abs : mg "abs" = none) (m_int : mg "int" = none) (m_range : mg "range" = none) (m_len : mg "len" = none) (m_list : mg "list" = none) (m_reversed : mg "reversed" = none) : CalD P w K mg base tb 1 "_law_draws" [none] (some .lst) F__law_draws :=
  cal_mk U gS sc__law_draws (fun cdv A outer s H E hr => ds__law_draws m_abs m_int m_range m_len m_list m_reversed f cdv A outer s H E hr) (fun _ _ _ _ _ _ us hl => match us, hl with | [_], _ => rfl)

/-! ### _law_take -/
def N__law_take : List Str := ["draws", "bound"]
theorem sc__law_take : FnScope N__law_take ["draws", "bound"] (defScope (top 6)) := ⟨rfl, rfl, rfl, by decide +kernel, rfl, by decide +kernel, by decide +kernel⟩
def g__law_take : DL.Env → Rt :=
  dSeq (dIf (dBinT dEqA (toA (dCallB gLen (dCons (dOwn 0) (dNil)))) (toA (dC (.int 0)))) (dRet (dC (.int 0))) (dNext))
      (dRet (dBin dMod (toA (dCallB gInt (dCons (toA (dMt 0 mPop dNil)) (dNil)))) (toA (dVar 1))))
theorem ds__law_take {P : Program} {w : World} {K : PySem.W.Frag} {mg : Str → Option Value} {base : Heap} {tb : List Addr} (m_len : mg "len" = none) (m_int : mg "int" = none) (f : Addr) (cdv : Value) (A : Around) (outer : List PySem.Env) (s : Shared) (H : Hp) (E : XK) (hr : Room 0 (A.deeper (envOfC "_law_take" (defScope (top 6)) s.heap.objs.size f cdv))) :
    DS (cxOf CX0 P w K mg base N__law_take "_law_take" (defScope (top 6)) f cdv A outer s H E).nox ⟨fun _ _ _ => False, lsOf [some .lst, none], tb⟩ (defBody (top 6)) (g__law_take) := by
  have S := sc__law_take
  unfold g__law_take
  exact ds_cons (d1_if (dt_cmp (or_eqA (hu64 hr)) od_eqA ((de_callB call_len cd_len (by rfl) m_len (by decide +kernel) (da_cons (ow 0) (da_nil))).dv) ((de_int).dv) (nomark _)) (ds_one (d1_ret (de_int))) (ds_nil))
      (ds_one (d1_ret (de_bin op_modN od_mod ((de_callTy call_int1 cd_int (by rfl) m_int (by decide +kernel) (da_cons ((de_mt0 PySem.F.slot_list_pop PySem.F.type_list_pop mt_pop md_pop (i := 0) (by rfl) (by first | exact Or.inl (by rfl) | exact Or.inr (Or.inl rfl) | exact Or.inr (Or.inr rfl))).dv) (da_nil))).dv) ((vr 1).dv))))
def F__law_take : List D → Res := fun ds => noX (resOf [some .lst, none] none (g__law_take (startE 2 [some .lst, none] ds)))
theorem cal__law_take {P : Program} {w : World} {K : PySem.W.Frag} {mg : Str → Option Value} {base : Heap} {tb : List Addr} {f : Addr} {fd : FuncData} (U : Fun K "_law_take" "_law_take" (top 6) f fd) (gS : mg "_law_take" = some (.ref f)) (m_len : mg "len" = none) (m_int : mg "int" = none) : CalD P w K mg base tb 1 "_law_take" [some .lst, none] none F__law_take :=
  cal_mk U gS sc__law_take (fun cdv A outer s H E hr => ds__law_take m_len m_int f cdv A outer s H E hr) (fun _ _ _ _ _ _ us hl => match us, hl with | [_, _], _ => rfl)

/-! ### _law_at -/
def N__law_at : List Str := ["form", "known", "name", "factor"]
theorem sc__law_at : FnScope N__law_at ["form", "known"] (defScope (top 7)) := ⟨rfl, rfl, rfl, by decide +kernel, rfl, by decide +kernel, by decide +kernel⟩
def g__law_at : DL.Env → Rt :=
  dRet (dBin dAdd (toA (dBin dIx (toA (dVar 0)) (toA (dC (.int 0))))) (toA (dCallB gSum (dCons (toA (dLc (dItemsA (dBin dIx (toA (dVar 0)) (toA (dC (.int 1))))) (gT (gsCons (gN 2) (gsCons (gN 3) (gsNil))) 2) (dYes) (dBin dMul (toA (dVar 3)) (toA (dBin dIx (toA (dVar 1)) (toA (dVar 2))))) [2, 3])) (dNil)))))
theorem ds__law_at {P : Program} {w : World} {K : PySem.W.Frag} {mg : Str → Option Value} {base : Heap} {tb : List Addr} (m_sum : mg "sum" = none) (f : Addr) (cdv : Value) (A : Around) (outer : List PySem.Env) (s : Shared) (H : Hp) (E : XK) (hr : Room 0 (A.deeper (envOfC "_law_at" (defScope (top 7)) s.heap.objs.size f cdv))) :
    DS (cxOf CX0 P w K mg base N__law_at "_law_at" (defScope (top 7)) f cdv A outer s H E).nox ⟨fun _ _ _ => False, lsOf [none, none], tb⟩ (defBody (top 7)) (g__law_at) := by
  have S := sc__law_at
  unfold g__law_at
  exact ds_one (d1_ret (de_bin or_add od_add ((de_ix (or_ix (hu65 hr)) od_ix ((vr 0).dv) ((de_int).dv) (fun _ _ => rfl)).dv) ((de_callB (cr_sum (by rfl)) cd_sum (by rfl) m_sum (by decide +kernel) (da_cons (((df_lc (own := [("name", 2), ("factor", 3)]) (ix := [2, 3]) (by rfl) S.nd (di_any (de_ix (or_ix (hu65 hr)) od_ix ((vr 0).dv) ((de_int).dv) (fun _ _ => rfl))) (blkOk_by (by kernel_rfl)) (by rfl) (by rfl) (fun _ _ _ _ _ => dg_tup (by rfl) (dgs_cons (gn S.nd 2) (dgs_cons (gn S.nd 3) (dgs_nil)))) (fun _ _ _ _ _ => dts_nil) (fun _ _ _ _ _ => de_bin or_mul od_mul ((vr 3).dv) ((de_ix (or_ix (hu65 hr)) od_ix ((vr 1).dv) ((vr 2).dv) (fun _ _ => rfl)).dv))).de).dv) (da_nil))).dv)))
def F__law_at : List D → Res := fun ds => noX (resOf [none, none] none (g__law_at (startE 4 [none, none] ds)))
theorem cal__law_at {P : Program} {w : World} {K : PySem.W.Frag} {mg : Str → Option Value} {base : Heap} {tb : List Addr} {f : Addr} {fd : FuncData} (U : Fun K "_law_at" "_law_at" (top 7) f fd) (gS : mg "_law_at" = some (.ref f)) (m_sum : mg "sum" = none) : CalD P w K mg base tb 1 "_law_at" [none, none] none F__law_at :=
  cal_mk U gS sc__law_at (fun cdv A outer s H E hr => ds__law_at m_sum f cdv A outer s H E hr) (fun _ _ _ _ _ _ us hl => match us, hl with | [_, _], _ => rfl)

/-! ### _law_row -/
def N__law_row : List Str := ["forms", "known", "form"]
theorem sc__law_row : FnScope N__law_row ["forms", "known"] (defScope (top 8)) := ⟨rfl, rfl, rfl, by decide +kernel, rfl, by decide +kernel, by decide +kernel⟩
def g__law_row (F__law_at : List D → Res) : DL.Env → Rt :=
  dRet (dCallB gTuple (dCons (toA (dLc (dItemsA (dVar 0)) (gN 2) (dYes) (dCall [none, none] F__law_at (dCons (toA (dVar 2)) (dCons (toA (dVar 1)) (dNil)))) [2])) (dNil)))
theorem ds__law_row {P : Program} {w : World} {K : PySem.W.Frag} {mg : Str → Option Value} {base : Heap} {tb : List Addr} (m_tuple : mg "tuple" = none) {F__law_at : List D → Res} (c__law_at : CalD P w K mg base tb 1 "_law_at" [none, none] none F__law_at) (f : Addr) (cdv : Value) (A : Around) (outer : List PySem.Env) (s : Shared) (H : Hp) (E : XK) (hr : Room 1 (A.deeper (envOfC "_law_row" (defScope (top 8)) s.heap.objs.size f cdv))) :
    DS (cxOf CX0 P w K mg base N__law_row "_law_row" (defScope (top 8)) f cdv A outer s H E).nox ⟨fun _ _ _ => False, lsOf [none, none], tb⟩ (defBody (top 8)) (g__law_row F__law_at) := by
  have S := sc__law_row
  unfold g__law_row
  exact ds_one (d1_ret (de_callTy call_tuple_of cd_tuple (by rfl) m_tuple (by decide +kernel) (da_cons (((df_lc (own := [("form", 2)]) (ix := [2]) (by rfl) S.nd (di_any (vr 0)) (blkOk_by (by kernel_rfl)) (by rfl) (by rfl) (fun _ _ _ _ _ => gn S.nd 2) (fun _ _ _ _ _ => dts_nil) (fun _ _ _ _ _ => de_call c__law_at hr (by decide) (by rfl) (da_cons ((vr 2).dv) (da_cons ((vr 1).dv) (da_nil))))).de).dv) (da_nil))))
def F__law_row : List D → Res := fun ds => noX (resOf [none, none] none (g__law_row F__law_at (startE 3 [none, none] ds)))
theorem cal__law_row {P : Program} {w : World} {K : PySem.W.Frag} {mg : Str → Option Value} {base : Heap} {tb : List Addr} {f : Addr} {fd : FuncData} (U : Fun K "_law_row" "_law_row" (top 8) f fd) (gS : mg "_law_row" = some (.ref f)) (m_tuple : mg "tuple" = none) (c__law_at : CalD P w K mg base tb 1 "_law_at" [none, none] none F__law_at) : CalD P w K mg base tb 2 "_law_row" [none, none] none F__law_row :=
  cal_mk U gS sc__law_row (fun cdv A outer s H E hr => ds__law_row m_tuple c__law_at f cdv A outer s H E hr) (fun _ _ _ _ _ _ us hl => match us, hl with | [_, _], _ => rfl)

/-! ### _law_forms -/
def N__law_forms : List Str := ["draws", "names", "many", "found", "k", "terms", "name", "factor"]
theorem sc__law_forms : FnScope N__law_forms ["draws", "names", "many"] (defScope (top 9)) := ⟨rfl, rfl, rfl, by decide +kernel, rfl, by decide +kernel, by decide +kernel⟩
def b__law_forms_0 (F__law_take : List D → Res) : DL.Env → Rt :=
  dSeq (dSet 7 (dBin dSub (toA (dCall [some .lst, none] F__law_take (dCons (dOwn 0) (dCons (toA (dC (.int 9))) (dNil))))) (toA (dC (.int 4)))))
      (dIf (dAndT (dBinT dEqA (toA (dCall [some .lst, none] F__law_take (dCons (dOwn 0) (dCons (toA (dC (.int 2))) (dNil))))) (toA (dC (.int 0)))) (dBinT dNeA (toA (dVar 7)) (toA (dC (.int 0))))) (dDrop (dMt 5 mAppend (dCons (toA (dTup (dCons (toA (dVar 6)) (dCons (toA (dVar 7)) (dNil))))) (dNil)))) (dNext))
def b__law_forms_1 (F__law_take : List D → Res) : DL.Env → Rt :=
  dSeq (dSetF 5 .lst (dLst (dNil)))
      (dSeq (dFor (dItemsA (dVar 1)) (gN 6) ((b__law_forms_0 F__law_take)) [6, 7])
      (dDrop (dMt 3 mAppend (dCons (toA (dTup (dCons (toA (dBin dSub (toA (dCall [some .lst, none] F__law_take (dCons (dOwn 0) (dCons (toA (dC (.int 21))) (dNil))))) (toA (dC (.int 8))))) (dCons (toA (dCallB gTuple (dCons (dOwn 5) (dNil)))) (dNil))))) (dNil)))))
def g__law_forms (F__law_take : List D → Res) : DL.Env → Rt :=
  dSeq (dSetF 3 .lst (dLst (dNil)))
      (dSeq (dFor (dRange1 (dCons (toA (dVar 2)) (dNil))) (gN 4) ((b__law_forms_1 F__law_take)) [4, 5, 6, 7])
      (dRet (dCallB gTuple (dCons (dOwn 3) (dNil)))))
theorem ds__law_forms {P : Program} {w : World} {K : PySem.W.Frag} {mg : Str → Option Value} {base : Heap} {tb : List Addr} (m_tuple : mg "tuple" = none) (m_range : mg "range" = none) {F__law_take : List D → Res} (c__law_take : CalD P w K mg base tb 1 "_law_take" [some .lst, none] none F__law_take) (f : Addr) (cdv : Value) (A : Around) (outer : List PySem.Env) (s : Shared) (H : Hp) (E : XK) (hr : Room 1 (A.deeper (envOfC "_law_forms" (defScope (top 9)) s.heap.objs.size f cdv))) :
    DS (cxOf CX0 P w K mg base N__law_forms "_law_forms" (defScope (top 9)) f cdv A outer s H E).nox ⟨fun _ _ _ => False, lsOf [some .lst, none, none], tb⟩ (defBody (top 9)) (g__law_forms F__law_take) := by
  have S := sc__law_forms
  unfold g__law_forms
  exact ds_cons (stF S.nd 3 (df_lst (da_nil)))
      (ds_cons (d1_for (ix := [4]) [4, 5, 6, 7] (by rfl) PassesOwn.never (by rfl) (di_range1 (by rfl) m_range (da_cons ((vr 2).dv) (da_nil))) (gn S.nd 4) (ds_cons (stF S.nd 5 (df_lst (da_nil)))
      (ds_cons (d1_for (ix := [6]) [6, 7] (by rfl) PassesOwn.never (by rfl) (di_any (vr 1)) (gn S.nd 6) (ds_cons (DL.st S.nd 7 (de_bin op_sub od_sub ((de_call c__law_take hr (by decide) (by rfl) (da_cons (ow 0) (da_cons ((de_int).dv) (da_nil)))).dv) ((de_int).dv)))
      (ds_one (d1_if ((dw_and (dt_cmp (or_eqA (hu64 hr)) od_eqA ((de_call c__law_take hr (by decide) (by rfl) (da_cons (ow 0) (da_cons ((de_int).dv) (da_nil)))).dv) ((de_int).dv) (nomark _)) (dw_and1 (dt_cmp (or_neA (hu64 hr)) od_neA ((vr 7).dv) ((de_int).dv) (nomark _)))).dt) (ds_one (d1_expr (de_mt PySem.F.slot_list_append PySem.F.type_list_append mt_append md_append (i := 5) (by rfl) (by first | exact Or.inl (by rfl) | exact Or.inr (Or.inl rfl) | exact Or.inr (Or.inr rfl)) (da_cons ((de_tup (da_cons ((vr 6).dv) (da_cons ((vr 7).dv) (da_nil)))).dv) (da_nil))))) (ds_nil)))))
      (ds_one (d1_expr (de_mt PySem.F.slot_list_append PySem.F.type_list_append mt_append md_append (i := 3) (by rfl) (by first | exact Or.inl (by rfl) | exact Or.inr (Or.inl rfl) | exact Or.inr (Or.inr rfl)) (da_cons ((de_tup (da_cons ((de_bin op_sub od_sub ((de_call c__law_take hr (by decide) (by rfl) (da_cons (ow 0) (da_cons ((de_int).dv) (da_nil)))).dv) ((de_int).dv)).dv) (da_cons ((de_callTy call_tuple_of cd_tuple (by rfl) m_tuple (by decide +kernel) (da_cons (ow 5) (da_nil))).dv) (da_nil)))).dv) (da_nil))))))))
      (ds_one (d1_ret (de_callTy call_tuple_of cd_tuple (by rfl) m_tuple (by decide +kernel) (da_cons (ow 3) (da_nil))))))
def F__law_forms : List D → Res := fun ds => noX (resOf [some .lst, none, none] none (g__law_forms F__law_take (startE 8 [some .lst, none, none] ds)))
theorem cal__law_forms {P : Program} {w : World} {K : PySem.W.Frag} {mg : Str → Option Value} {base : Heap} {tb : List Addr} {f : Addr} {fd : FuncData} (U : Fun K "_law_forms" "_law_forms" (top 9) f fd) (gS : mg "_law_forms" = some (.ref f)) (m_tuple : mg "tuple" = none) (m_range : mg "range" = none) (c__law_take : CalD P w K mg base tb 1 "_law_take" [some .lst, none] none F__law_take) : CalD P w K mg base tb 2 "_law_forms" [some .lst, none, none] none F__law_forms :=
  cal_mk U gS sc__law_forms (fun cdv A outer s H E hr => ds__law_forms m_tuple m_range c__law_take f cdv A outer s H E hr) (fun _ _ _ _ _ _ us hl => match us, hl with | [_, _, _], _ => rfl)

/-! ### _law_every -/
def N__law_every : List Str := ["bounds", "found", "name", "later", "row", "k"]
theorem sc__law_every : FnScope N__law_every ["bounds"] (defScope (top 10)) := ⟨rfl, rfl, rfl, by decide +kernel, rfl, by decide +kernel, by decide +kernel⟩
def b__law_every_0 : DL.Env → Rt :=
  dSet 3 (dBin dAdd (toA (dVar 3)) (toA (dLc (dRange1 (dCons (toA (dBin dIx (toA (dVar 0)) (toA (dVar 2)))) (dNil))) (gN 5) (dYes) (dCallB gDictA (dCons (toA (dBin dAdd (toA (dItemsL (dVar 4))) (toA (dLst (dCons (toA (dTup (dCons (toA (dVar 2)) (dCons (toA (dVar 5)) (dNil))))) (dNil)))))) (dNil))) [5])))
def b__law_every_1 : DL.Env → Rt :=
  dSeq (dSet 3 (dLst (dNil)))
      (dSeq (dFor (dItemsA (dVar 1)) (gN 4) (b__law_every_0) [4])
      (dSet 1 (dVar 3)))
def g__law_every : DL.Env → Rt :=
  dSeq (dSet 1 (dLst (dCons (toA (dNew)) (dNil))))
      (dSeq (dFor (dItemsA (dCallB gSorted (dCons (toA (dCallB gListA (dCons (toA (dVar 0)) (dNil)))) (dNil)))) (gN 2) (b__law_every_1) [2, 3, 4])
      (dRet (dVar 1)))
theorem ds__law_every {P : Program} {w : World} {K : PySem.W.Frag} {mg : Str → Option Value} {base : Heap} {tb : List Addr} (m_range : mg "range" = none) (m_list : mg "list" = none) (m_dict : mg "dict" = none) (m_sorted : mg "sorted" = none) (f : Addr) (cdv : Value) (A : Around) (outer : List PySem.Env) (s : Shared) (H : Hp) (E : XK) (hr : Room 0 (A.deeper (envOfC "_law_every" (defScope (top 10)) s.heap.objs.size f cdv))) :
    DS (cxOf CX0 P w K mg base N__law_every "_law_every" (defScope (top 10)) f cdv A outer s H E).nox ⟨fun _ _ _ => False, lsOf [none], tb⟩ (defBody (top 10)) (g__law_every) := by
  have S := sc__law_every
  unfold g__law_every
  exact ds_cons (DL.st S.nd 1 ((df_lst (da_cons (((df_newK).de).dv) (da_nil))).de))
      (ds_cons (d1_for (ix := [2]) [2, 3, 4] (by rfl) PassesOwn.never (by rfl) (di_any ((df_callB cr_sortedA cf_sorted (by rfl) m_sorted (by decide +kernel) (da_cons (((df_callTy (cr_listA (by rfl)) cf_listA (by rfl) m_list (by decide +kernel) (da_cons ((vr 0).dv) (da_nil))).de).dv) (da_nil))).de)) (gn S.nd 2) (ds_cons (DL.st S.nd 3 ((df_lst (da_nil)).de))
      (ds_cons (d1_for (ix := [4]) [4] (by rfl) PassesOwn.never (by rfl) (di_any (vr 1)) (gn S.nd 4) (ds_one (DL.st S.nd 3 (de_bin or_add od_add ((vr 3).dv) (((df_lc (own := [("k", 5)]) (ix := [5]) (by rfl) S.nd (di_range1 (by rfl) m_range (da_cons ((de_ix (or_ix (hu65 hr)) od_ix ((vr 0).dv) ((vr 2).dv) (fun _ _ => rfl)).dv) (da_nil))) (blkOk_by (by kernel_rfl)) (by rfl) (by rfl) (fun _ _ _ _ _ => gn S.nd 5) (fun _ _ _ _ _ => dts_nil) (fun _ _ _ _ _ => de_callTy (cr_dictA (by rfl) (hu64 hr)) cd_dictA (by rfl) m_dict (by decide +kernel) (da_cons ((de_bin or_add od_add (((df_listItems (by rfl) (vr 4) (by rfl) m_list (by decide +kernel)).de).dv) (((df_lst (da_cons ((de_tup (da_cons ((vr 2).dv) (da_cons ((vr 5).dv) (da_nil)))).dv) (da_nil))).de).dv)).dv) (da_nil)))).de).dv)))))
      (ds_one (DL.st S.nd 1 (vr 3))))))
      (ds_one (d1_ret (vr 1))))
def F__law_every : List D → Res := fun ds => noX (resOf [none] none (g__law_every (startE 6 [none] ds)))
theorem cal__law_every {P : Program} {w : World} {K : PySem.W.Frag} {mg : Str → Option Value} {base : Heap} {tb : List Addr} {f : Addr} {fd : FuncData} (U : Fun K "_law_every" "_law_every" (top 10) f fd) (gS : mg "_law_every" = some (.ref f)) (m_range : mg "range" = none) (m_list : mg "list" = none) (m_dict : mg "dict" = none) (m_sorted : mg "sorted" = none) : CalD P w K mg base tb 1 "_law_every" [none] none F__law_every :=
  cal_mk U gS sc__law_every (fun cdv A outer s H E hr => ds__law_every m_range m_list m_dict m_sorted f cdv A outer s H E hr) (fun _ _ _ _ _ _ us hl => match us, hl with | [_], _ => rfl)

/-! ### _law_factors -/
def N__law_factors : List Str := ["forms", "found", "number", "terms", "name", "factor"]
theorem sc__law_factors : FnScope N__law_factors ["forms"] (defScope (top 11)) := ⟨rfl, rfl, rfl, by decide +kernel, rfl, by decide +kernel, by decide +kernel⟩
def b__law_factors_0 : DL.Env → Rt :=
  dSet 1 (dBin dAdd (toA (dVar 1)) (toA (dLc (dItemsA (dVar 3)) (gT (gsCons (gN 4) (gsCons (gN 5) (gsNil))) 2) (dYes) (dCallB gAbs (dCons (toA (dVar 5)) (dNil))) [4, 5])))
def g__law_factors : DL.Env → Rt :=
  dSeq (dSet 1 (dLst (dNil)))
      (dSeq (dFor (dItemsA (dVar 0)) (gT (gsCons (gN 2) (gsCons (gN 3) (gsNil))) 2) (b__law_factors_0) [2, 3])
      (dRet (dVar 1)))
theorem ds__law_factors {P : Program} {w : World} {K : PySem.W.Frag} {mg : Str → Option Value} {base : Heap} {tb : List Addr} (m_abs : mg "abs" = none) (f : Addr) (cdv : Value) (A : Around) (outer : List PySem.Env) (s : Shared) (H : Hp) (E : XK) (hr : Room 0 (A.deeper (envOfC "_law_factors" (defScope (top 11)) s.heap.objs.size f cdv))) :
    DS (cxOf CX0 P w K mg base N__law_factors "_law_factors" (defScope (top 11)) f cdv A outer s H E).nox ⟨fun _ _ _ => False, lsOf [none], tb⟩ (defBody (top 11)) (g__law_factors) := by
  have S := sc__law_factors
  unfold g__law_factors
  exact ds_cons (DL.st S.nd 1 ((df_lst (da_nil)).de))
      (ds_cons (d1_for (ix := [2, 3]) [2, 3] (by rfl) PassesOwn.never (by rfl) (di_any (vr 0)) (dg_tup (by rfl) (dgs_cons (gn S.nd 2) (dgs_cons (gn S.nd 3) (dgs_nil)))) (ds_one (DL.st S.nd 1 (de_bin or_add od_add ((vr 1).dv) (((df_lc (own := [("name", 4), ("factor", 5)]) (ix := [4, 5]) (by rfl) S.nd (di_any (vr 3)) (blkOk_by (by kernel_rfl)) (by rfl) (by rfl) (fun _ _ _ _ _ => dg_tup (by rfl) (dgs_cons (gn S.nd 4) (dgs_cons (gn S.nd 5) (dgs_nil)))) (fun _ _ _ _ _ => dts_nil) (fun _ _ _ _ _ => de_callB call_abs cd_abs (by rfl) m_abs (by decide +kernel) (da_cons ((vr 5).dv) (da_nil)))).de).dv)))))
      (ds_one (d1_ret (vr 1))))
def F__law_factors : List D → Res := fun ds => noX (resOf [none] none (g__law_factors (startE 6 [none] ds)))
theorem cal__law_factors {P : Program} {w : World} {K : PySem.W.Frag} {mg : Str → Option Value} {base : Heap} {tb : List Addr} {f : Addr} {fd : FuncData} (U : Fun K "_law_factors" "_law_factors" (top 11) f fd) (gS : mg "_law_factors" = some (.ref f)) (m_abs : mg "abs" = none) : CalD P w K mg base tb 1 "_law_factors" [none] none F__law_factors :=
  cal_mk U gS sc__law_factors (fun cdv A outer s H E hr => ds__law_factors m_abs f cdv A outer s H E hr) (fun _ _ _ _ _ _ us hl => match us, hl with | [_], _ => rfl)

/-! ### _law_divisor -/
def N__law_divisor : List Str := ["forms", "factors", "k", "one"]
theorem sc__law_divisor : FnScope N__law_divisor ["forms"] (defScope (top 12)) := ⟨rfl, rfl, rfl, by decide +kernel, rfl, by decide +kernel, by decide +kernel⟩
def g__law_divisor (F__law_factors : List D → Res) : DL.Env → Rt :=
  dSeq (dSet 1 (dCall [none] F__law_factors (dCons (toA (dVar 0)) (dNil))))
      (dRet (dIfE (dBinT dNeA (toA (dVar 1)) (toA (dLst (dNil)))) (dCallB gMaxL (dCons (toA (dLc (dRange2 (dCons (toA (dC (.int 1))) (dCons (toA (dC (.int 5))) (dNil)))) (gN 2) (dBinT dEqA (toA (dLc (dItemsA (dVar 1)) (gN 3) (dBinT dNeA (toA (dBin dMul (toA (dBin dFdiv (toA (dVar 3)) (toA (dVar 2)))) (toA (dVar 2)))) (toA (dVar 3))) (dVar 3) [3])) (toA (dLst (dNil)))) (dVar 2) [2])) (dNil))) (dC (.int 0))))
theorem ds__law_divisor {P : Program} {w : World} {K : PySem.W.Frag} {mg : Str → Option Value} {base : Heap} {tb : List Addr} (m_range : mg "range" = none) (m_max : mg "max" = none) {F__law_factors : List D → Res} (c__law_factors : CalD P w K mg base tb 1 "_law_factors" [none] none F__law_factors) (f : Addr) (cdv : Value) (A : Around) (outer : List PySem.Env) (s : Shared) (H : Hp) (E : XK) (hr : Room 1 (A.deeper (envOfC "_law_divisor" (defScope (top 12)) s.heap.objs.size f cdv))) :
    DS (cxOf CX0 P w K mg base N__law_divisor "_law_divisor" (defScope (top 12)) f cdv A outer s H E).nox ⟨fun _ _ _ => False, lsOf [none], tb⟩ (defBody (top 12)) (g__law_divisor F__law_factors) := by
  have S := sc__law_divisor
  unfold g__law_divisor
  exact ds_cons (DL.st S.nd 1 (de_call c__law_factors hr (by decide) (by rfl) (da_cons ((vr 0).dv) (da_nil))))
      (ds_one (d1_ret (de_if (dt_cmp (or_neA (hu64 hr)) od_neA ((vr 1).dv) (((df_lst (da_nil)).de).dv) (nomark _)) (de_callB (cr_max (by rfl)) cd_maxL (by rfl) m_max (by decide +kernel) (da_cons (((df_lc (own := [("k", 2)]) (ix := [2]) (by rfl) S.nd (di_range2 (by rfl) m_range (da_cons ((de_int).dv) (da_cons ((de_int).dv) (da_nil)))) (blkOk_by (by kernel_rfl)) (by rfl) (by rfl) (fun _ _ _ _ _ => gn S.nd 2) (fun _ _ _ _ _ => dts_one (dt_cmp (or_eqA (hu64 hr)) od_eqA (((df_lc (own := [("one", 3)]) (ix := [3]) (by rfl) S.nd (di_any (vr 1)) (blkOk_by (by kernel_rfl)) (by rfl) (by rfl) (fun _ _ _ _ _ => gn S.nd 3) (fun _ _ _ _ _ => dts_one (dt_cmp (or_neA (hu64 hr)) od_neA ((de_bin or_mul od_mul ((de_bin or_fdiv od_fdiv ((vr 3).dv) ((vr 2).dv)).dv) ((vr 2).dv)).dv) ((vr 3).dv) (nomark _))) (fun _ _ _ _ _ => vr 3)).de).dv) (((df_lst (da_nil)).de).dv) (nomark _))) (fun _ _ _ _ _ => vr 2)).de).dv) (da_nil))) (de_int))))
def F__law_divisor : List D → Res := fun ds => noX (resOf [none] none (g__law_divisor F__law_factors (startE 4 [none] ds)))
theorem cal__law_divisor {P : Program} {w : World} {K : PySem.W.Frag} {mg : Str → Option Value} {base : Heap} {tb : List Addr} {f : Addr} {fd : FuncData} (U : Fun K "_law_divisor" "_law_divisor" (top 12) f fd) (gS : mg "_law_divisor" = some (.ref f)) (m_range : mg "range" = none) (m_max : mg "max" = none) (c__law_factors : CalD P w K mg base tb 1 "_law_factors" [none] none F__law_factors) : CalD P w K mg base tb 2 "_law_divisor" [none] none F__law_divisor :=
  cal_mk U gS sc__law_divisor (fun cdv A outer s H E hr => ds__law_divisor m_range m_max c__law_factors f cdv A outer s H E hr) (fun _ _ _ _ _ _ us hl => match us, hl with | [_], _ => rfl)

/-! ### law -/
def N_law : List Str := ["script", "draws", "turn", "names", "bounds", "many", "one", "other", "told", "rows", "mine", "its", "meet", "due", "k", "common", "apart", "first", "second", "name", "row"]
theorem sc_law : FnScope N_law ["script"] (defScope (top 13)) := ⟨rfl, rfl, rfl, by decide +kernel, rfl, by decide +kernel, by decide +kernel⟩
def b_law_0 (F__law_draws : List D → Res) (F__law_take : List D → Res) (F__law_forms : List D → Res) (F_never_meet : List D → Res) (F__law_every : List D → Res) (F__law_row : List D → Res) (F__law_divisor : List D → Res) (F__law_at : List D → Res) : DL.Env → Rt :=
  dSeq (dPar 15 16 (dCons (toA (dCall [none] F__law_divisor (dCons (toA (dLst (dCons (toA (dBin dIx (toA (dVar 6)) (toA (dVar 14)))) (dCons (toA (dBin dIx (toA (dVar 7)) (toA (dVar 14)))) (dNil))))) (dNil)))) (dCons (toA (dBin dSub (toA (dBin dIx (toA (dBin dIx (toA (dVar 6)) (toA (dVar 14)))) (toA (dC (.int 0))))) (toA (dBin dIx (toA (dBin dIx (toA (dVar 7)) (toA (dVar 14)))) (toA (dC (.int 0))))))) (dNil))))
      (dSeq (dSet 13 (dOr (dVar 13) (dOr (dAnd (dBin dEqA (toA (dVar 15)) (toA (dC (.int 0)))) (dBin dNeA (toA (dVar 16)) (toA (dC (.int 0))))) (dAnd (dBin dGt (toA (dVar 15)) (toA (dC (.int 0)))) (dBin dNeA (toA (dBin dMul (toA (dBin dFdiv (toA (dVar 16)) (toA (dVar 15)))) (toA (dVar 15)))) (toA (dVar 16)))))))
      (dIf (dBinT dNeA (toA (dVar 9)) (toA (dLst (dNil)))) (dSeq (dPar 17 18 (dCons (toA (dLc (dItemsA (dVar 9)) (gN 20) (dYes) (dCall [none, none] F__law_at (dCons (toA (dBin dIx (toA (dVar 6)) (toA (dVar 14)))) (dCons (toA (dVar 20)) (dNil)))) [20])) (dCons (toA (dLc (dItemsA (dVar 9)) (gN 20) (dYes) (dCall [none, none] F__law_at (dCons (toA (dBin dIx (toA (dVar 7)) (toA (dVar 14)))) (dCons (toA (dVar 20)) (dNil)))) [20])) (dNil))))
      (dSet 13 (dOr (dVar 13) (dOr (dBin dLt (toA (dCallB gMaxL (dCons (toA (dVar 17)) (dNil)))) (toA (dCallB gMinL (dCons (toA (dVar 18)) (dNil))))) (dBin dLt (toA (dCallB gMaxL (dCons (toA (dVar 18)) (dNil)))) (toA (dCallB gMinL (dCons (toA (dVar 17)) (dNil))))))))) (dNext)))
def b_law_1 (F__law_draws : List D → Res) (F__law_take : List D → Res) (F__law_forms : List D → Res) (F_never_meet : List D → Res) (F__law_every : List D → Res) (F__law_row : List D → Res) (F__law_divisor : List D → Res) (F__law_at : List D → Res) : DL.Env → Rt :=
  dSeq (dSet 3 (dSlL (toA (dLst (dCons (toA (dC (.str "i"))) (dCons (toA (dC (.str "j"))) (dCons (toA (dC (.str "k"))) (dNil)))))) (dNoP) (dPart (dBin dAdd (toA (dC (.int 1))) (toA (dCall [some .lst, none] F__law_take (dCons (dOwn 1) (dCons (toA (dC (.int 3))) (dNil)))))))))
      (dSeq (dSet 4 (dCallB gDictA (dCons (toA (dLc (dItemsA (dVar 3)) (gN 19) (dYes) (dTup (dCons (toA (dVar 19)) (dCons (toA (dCall [some .lst, none] F__law_take (dCons (dOwn 1) (dCons (toA (dC (.int 6))) (dNil))))) (dNil)))) [19])) (dNil))))
      (dSeq (dSet 5 (dBin dAdd (toA (dC (.int 1))) (toA (dCall [some .lst, none] F__law_take (dCons (dOwn 1) (dCons (toA (dC (.int 2))) (dNil)))))))
      (dSeq (dAsg (dTup (dCons (toA (dCall [some .lst, none, none] F__law_forms (dCons (dOwn 1) (dCons (toA (dVar 3)) (dCons (toA (dVar 5)) (dNil)))))) (dCons (toA (dCall [some .lst, none, none] F__law_forms (dCons (dOwn 1) (dCons (toA (dVar 3)) (dCons (toA (dVar 5)) (dNil)))))) (dNil)))) (gT (gsCons (gN 6) (gsCons (gN 7) (gsNil))) 2))
      (dSeq (dSet 8 (dCall [none, none, none] F_never_meet (dCons (toA (dVar 6)) (dCons (toA (dVar 7)) (dCons (toA (dVar 4)) (dNil))))))
      (dSeq (dSet 9 (dCall [none] F__law_every (dCons (toA (dVar 4)) (dNil))))
      (dSeq (dAsg (dTup (dCons (toA (dCallB gDictA (dCons (toA (dLc (dItemsA (dVar 9)) (gN 20) (dYes) (dTup (dCons (toA (dCall [none, none] F__law_row (dCons (toA (dVar 6)) (dCons (toA (dVar 20)) (dNil))))) (dCons (toA (dC (.int 1))) (dNil)))) [20])) (dNil)))) (dCons (toA (dCallB gDictA (dCons (toA (dLc (dItemsA (dVar 9)) (gN 20) (dYes) (dTup (dCons (toA (dCall [none, none] F__law_row (dCons (toA (dVar 7)) (dCons (toA (dVar 20)) (dNil))))) (dCons (toA (dC (.int 1))) (dNil)))) [20])) (dNil)))) (dNil)))) (gT (gsCons (gN 10) (gsCons (gN 11) (gsNil))) 2))
      (dSeq (dSet 12 (dBin dNeA (toA (dLc (dItemsA (dVar 10)) (gN 20) (dBinT dIn (toA (dVar 20)) (toA (dVar 11))) (dVar 20) [20])) (toA (dLst (dNil)))))
      (dSeq (dIf (dOrT (dNotT (dTruth (toA (dIsi "bool" (toA (dVar 8)))))) (dAndT (dTruth (toA (dVar 8))) (dTruth (toA (dVar 12))))) (dRet (dC (.bool false))) (dNext))
      (dSeq (dSet 13 (dBin dEqA (toA (dVar 9)) (toA (dLst (dNil)))))
      (dSeq (dFor (dRange1 (dCons (toA (dVar 5)) (dNil))) (gN 14) ((b_law_0 F__law_draws F__law_take F__law_forms F_never_meet F__law_every F__law_row F__law_divisor F__law_at)) [14, 15, 16, 17, 18])
      (dIf (dOrT (dBinT dNeA (toA (dVar 8)) (toA (dVar 13))) (dBinT dNeA (toA (dCall [none, none, none] F_never_meet (dCons (toA (dVar 7)) (dCons (toA (dVar 6)) (dCons (toA (dVar 4)) (dNil)))))) (toA (dVar 8)))) (dRet (dC (.bool false))) (dNext))))))))))))
def g_law (F__law_draws : List D → Res) (F__law_take : List D → Res) (F__law_forms : List D → Res) (F_never_meet : List D → Res) (F__law_every : List D → Res) (F__law_row : List D → Res) (F__law_divisor : List D → Res) (F__law_at : List D → Res) : DL.Env → Rt :=
  dSeq (dSetF 1 .lst (dCall [none] F__law_draws (dCons (toA (dVar 0)) (dNil))))
      (dSeq (dFor (dRange1 (dCons (toA (dC (.int 12))) (dNil))) (gN 2) ((b_law_1 F__law_draws F__law_take F__law_forms F_never_meet F__law_every F__law_row F__law_divisor F__law_at)) [2, 3, 4, 5, 6, 7, 8, 9, 10, 11, 12, 13, 14, 15, 16, 17, 18])
      (dRet (dAnd (dBin dIs (toA (dCall [none, none, none] F_never_meet (dCons (toA (dTup (dNil))) (dCons (toA (dTup (dNil))) (dCons (toA (dNew)) (dNil)))))) (toA (dC (.bool false)))) (dBin dIs (toA (dCall [none, none, none] F_never_meet (dCons (toA (dTup (dCons (toA (dTup (dCons (toA (dC (.int 1))) (dCons (toA (dTup (dNil))) (dNil))))) (dNil)))) (dCons (toA (dTup (dCons (toA (dTup (dCons (toA (dC (.int 2))) (dCons (toA (dTup (dNil))) (dNil))))) (dNil)))) (dCons (toA (dNew)) (dNil)))))) (toA (dC (.bool true)))))))
theorem ds_law {P : Program} {w : World} {K : PySem.W.Frag} {mg : Str → Option Value} {base : Heap} {tb : List Addr} (m_dict : mg "dict" = none) (m_isinstance : mg "isinstance" = none) (m_bool : mg "bool" = none) (m_max : mg "max" = none) (m_min : mg "min" = none) (m_range : mg "range" = none) {F__law_draws : List D → Res} (c__law_draws : CalD P w K mg base tb 1 "_law_draws" [none] (some .lst) F__law_draws) {F__law_take : List D → Res} (c__law_take : CalD P w K mg base tb 1 "_law_take" [some .lst, none] none F__law_take) {F__law_forms : List D → Res} (c__law_forms : CalD P w K mg base tb 2 "_law_forms" [some .lst, none, none] none F__law_forms) {F_never_meet : List D → Res} (c_never_meet : CalD P w K mg base tb 2 "never_meet" [none, none, none] none F_never_meet) {F__law_every : List D → Res} (c__law_every : CalD P w K mg base tb 1 "_law_every" [none] none F__law_every) {F__law_row : List D → Res} (c__law_row : CalD P w K mg base tb 2 "_law_row" [none, none] none F__law_row) {F__law_divisor : List D → Res} (c__law_divisor : CalD P w K mg base tb 2 "_law_divisor" [none] none F__law_divisor) {F__law_at : List D → Res} (c__law_at : CalD P w K mg base tb 1 "_law_at" [none, none] none F__law_at) (f : Addr) (cdv : Value) (A : Around) (outer : List PySem.Env) (s : Shared) (H : Hp) (E : XK) (hr : Room 2 (A.deeper (envOfC "law" (defScope (top 13)) s.heap.objs.size f cdv))) :
    DS (cxOf CX0 P w K mg base N_law "law" (defScope (top 13)) f cdv A outer s H E).nox ⟨fun _ _ _ => False, lsOf [none], tb⟩ (defBody (top 13)) (g_law F__law_draws F__law_take F__law_forms F_never_meet F__law_every F__law_row F__law_divisor F__law_at) := by
  have S := sc_law
  unfold g_law
  exact ds_cons (stF S.nd 1 (df_call c__law_draws hr (by decide) (by rfl) (da_cons ((vr 0).dv) (da_nil))))
      (ds_cons (d1_for (ix := [2]) [2, 3, 4, 5, 6, 7, 8, 9, 10, 11, 12, 13, 14, 15, 16, 17, 18] (by rfl) PassesOwn.never (by rfl) (di_range1 (by rfl) m_range (da_cons ((de_int).dv) (da_nil))) (gn S.nd 2) (ds_cons (DL.st S.nd 3 ((df_slL (((df_lst (da_cons ((de_str).dv) (da_cons ((de_str).dv) (da_cons ((de_str).dv) (da_nil))))).de).dv) (do_none) (do_some (de_bin or_add od_add ((de_int).dv) ((de_call c__law_take hr (by decide) (by rfl) (da_cons (ow 1) (da_cons ((de_int).dv) (da_nil)))).dv)))).de))
      (ds_cons (DL.st S.nd 4 (de_callTy (cr_dictA (by rfl) (hu64 hr)) cd_dictA (by rfl) m_dict (by decide +kernel) (da_cons (((df_lc (own := [("name", 19)]) (ix := [19]) (by rfl) S.nd (di_any (vr 3)) (blkOk_by (by kernel_rfl)) (by rfl) (by rfl) (fun _ _ _ _ _ => gn S.nd 19) (fun _ _ _ _ _ => dts_nil) (fun _ _ _ _ _ => de_tup (da_cons ((vr 19).dv) (da_cons ((de_call c__law_take hr (by decide) (by rfl) (da_cons (ow 1) (da_cons ((de_int).dv) (da_nil)))).dv) (da_nil))))).de).dv) (da_nil))))
      (ds_cons (DL.st S.nd 5 (de_bin or_add od_add ((de_int).dv) ((de_call c__law_take hr (by decide) (by rfl) (da_cons (ow 1) (da_cons ((de_int).dv) (da_nil)))).dv)))
      (ds_cons (d1_asg (de_tup (da_cons ((de_call c__law_forms hr (by decide) (by rfl) (da_cons (ow 1) (da_cons ((vr 3).dv) (da_cons ((vr 5).dv) (da_nil))))).dv) (da_cons ((de_call c__law_forms hr (by decide) (by rfl) (da_cons (ow 1) (da_cons ((vr 3).dv) (da_cons ((vr 5).dv) (da_nil))))).dv) (da_nil)))) (dg_tup (by rfl) (dgs_cons (gn S.nd 6) (dgs_cons (gn S.nd 7) (dgs_nil)))))
      (ds_cons (DL.st S.nd 8 (de_call c_never_meet hr (by decide) (by rfl) (da_cons ((vr 6).dv) (da_cons ((vr 7).dv) (da_cons ((vr 4).dv) (da_nil))))))
      (ds_cons (DL.st S.nd 9 (de_call c__law_every hr (by decide) (by rfl) (da_cons ((vr 4).dv) (da_nil))))
      (ds_cons (d1_asg (de_tup (da_cons ((de_callTy (cr_dictA (by rfl) (hu64 hr)) cd_dictA (by rfl) m_dict (by decide +kernel) (da_cons (((df_lc (own := [("row", 20)]) (ix := [20]) (by rfl) S.nd (di_any (vr 9)) (blkOk_by (by kernel_rfl)) (by rfl) (by rfl) (fun _ _ _ _ _ => gn S.nd 20) (fun _ _ _ _ _ => dts_nil) (fun _ _ _ _ _ => de_tup (da_cons ((de_call c__law_row hr (by decide) (by rfl) (da_cons ((vr 6).dv) (da_cons ((vr 20).dv) (da_nil)))).dv) (da_cons ((de_int).dv) (da_nil))))).de).dv) (da_nil))).dv) (da_cons ((de_callTy (cr_dictA (by rfl) (hu64 hr)) cd_dictA (by rfl) m_dict (by decide +kernel) (da_cons (((df_lc (own := [("row", 20)]) (ix := [20]) (by rfl) S.nd (di_any (vr 9)) (blkOk_by (by kernel_rfl)) (by rfl) (by rfl) (fun _ _ _ _ _ => gn S.nd 20) (fun _ _ _ _ _ => dts_nil) (fun _ _ _ _ _ => de_tup (da_cons ((de_call c__law_row hr (by decide) (by rfl) (da_cons ((vr 7).dv) (da_cons ((vr 20).dv) (da_nil)))).dv) (da_cons ((de_int).dv) (da_nil))))).de).dv) (da_nil))).dv) (da_nil)))) (dg_tup (by rfl) (dgs_cons (gn S.nd 10) (dgs_cons (gn S.nd 11) (dgs_nil)))))
      (ds_cons (DL.st S.nd 12 (de_cmp (or_neA (hu64 hr)) od_neA (((df_lc (own := [("row", 20)]) (ix := [20]) (by rfl) S.nd (di_any (vr 10)) (blkOk_by (by kernel_rfl)) (by rfl) (by rfl) (fun _ _ _ _ _ => gn S.nd 20) (fun _ _ _ _ _ => dts_one (dt_cmp (or_in (hu65 hr)) od_in ((vr 20).dv) ((vr 11).dv) (by rfl))) (fun _ _ _ _ _ => vr 20)).de).dv) (((df_lst (da_nil)).de).dv) (nomark _)))
      (ds_cons (d1_if ((dw_or (dt_not (dt_truth ((de_isi (by rfl) m_isinstance (by rfl) m_bool (by decide +kernel) ((vr 8).dv)).dv))) (dw_or1 ((dw_and (dt_truth ((vr 8).dv)) (dw_and1 (dt_truth ((vr 12).dv)))).dt))).dt) (ds_one (d1_ret (de_bl))) (ds_nil))
      (ds_cons (DL.st S.nd 13 (de_cmp (or_eqA (hu64 hr)) od_eqA ((vr 9).dv) (((df_lst (da_nil)).de).dv) (nomark _)))
      (ds_cons (d1_for (ix := [14]) [14, 15, 16, 17, 18] (by rfl) PassesOwn.never (by rfl) (di_range1 (by rfl) m_range (da_cons ((vr 5).dv) (da_nil))) (gn S.nd 14) (ds_cons (d1_par (i := 15) (j := 16) (by rfl) S.nd (by rfl) (by rfl) (by decide) (by rfl) (by rfl) (by rfl) (by rfl) (da_cons ((de_call c__law_divisor hr (by decide) (by rfl) (da_cons (((df_lst (da_cons ((de_ix (or_ix (hu65 hr)) od_ix ((vr 6).dv) ((vr 14).dv) (fun _ _ => rfl)).dv) (da_cons ((de_ix (or_ix (hu65 hr)) od_ix ((vr 7).dv) ((vr 14).dv) (fun _ _ => rfl)).dv) (da_nil)))).de).dv) (da_nil))).dv) (da_cons ((de_bin op_sub od_sub ((de_ix (or_ix (hu65 hr)) od_ix ((de_ix (or_ix (hu65 hr)) od_ix ((vr 6).dv) ((vr 14).dv) (fun _ _ => rfl)).dv) ((de_int).dv) (fun _ _ => rfl)).dv) ((de_ix (or_ix (hu65 hr)) od_ix ((de_ix (or_ix (hu65 hr)) od_ix ((vr 7).dv) ((vr 14).dv) (fun _ _ => rfl)).dv) ((de_int).dv) (fun _ _ => rfl)).dv)).dv) (da_nil))) (by rfl))
      (ds_cons (DL.st S.nd 13 (de_or (vr 13) (de_or (de_and (de_cmp (or_eqA (hu64 hr)) od_eqA ((vr 15).dv) ((de_int).dv) (nomark _)) (de_one (de_cmp (or_neA (hu64 hr)) od_neA ((vr 16).dv) ((de_int).dv) (nomark _)))) (de_one (de_and (de_cmp op_gt od_gt ((vr 15).dv) ((de_int).dv) (nomark _)) (de_one (de_cmp (or_neA (hu64 hr)) od_neA ((de_bin or_mul od_mul ((de_bin or_fdiv od_fdiv ((vr 16).dv) ((vr 15).dv)).dv) ((vr 15).dv)).dv) ((vr 16).dv) (nomark _))))))))
      (ds_one (d1_if (dt_cmp (or_neA (hu64 hr)) od_neA ((vr 9).dv) (((df_lst (da_nil)).de).dv) (nomark _)) (ds_cons (d1_par (i := 17) (j := 18) (by rfl) S.nd (by rfl) (by rfl) (by decide) (by rfl) (by rfl) (by rfl) (by rfl) (da_cons (((df_lc (own := [("row", 20)]) (ix := [20]) (by rfl) S.nd (di_any (vr 9)) (blkOk_by (by kernel_rfl)) (by rfl) (by rfl) (fun _ _ _ _ _ => gn S.nd 20) (fun _ _ _ _ _ => dts_nil) (fun _ _ _ _ _ => de_call c__law_at hr (by decide) (by rfl) (da_cons ((de_ix (or_ix (hu65 hr)) od_ix ((vr 6).dv) ((vr 14).dv) (fun _ _ => rfl)).dv) (da_cons ((vr 20).dv) (da_nil))))).de).dv) (da_cons (((df_lc (own := [("row", 20)]) (ix := [20]) (by rfl) S.nd (di_any (vr 9)) (blkOk_by (by kernel_rfl)) (by rfl) (by rfl) (fun _ _ _ _ _ => gn S.nd 20) (fun _ _ _ _ _ => dts_nil) (fun _ _ _ _ _ => de_call c__law_at hr (by decide) (by rfl) (da_cons ((de_ix (or_ix (hu65 hr)) od_ix ((vr 7).dv) ((vr 14).dv) (fun _ _ => rfl)).dv) (da_cons ((vr 20).dv) (da_nil))))).de).dv) (da_nil))) (by rfl))
      (ds_one (DL.st S.nd 13 (de_or (vr 13) (de_or (de_cmp or_lt od_lt ((de_callB (cr_max (by rfl)) cd_maxL (by rfl) m_max (by decide +kernel) (da_cons ((vr 17).dv) (da_nil))).dv) ((de_callB (cr_min (by rfl)) cd_minL (by rfl) m_min (by decide +kernel) (da_cons ((vr 18).dv) (da_nil))).dv) (nomark _)) (de_one (de_cmp or_lt od_lt ((de_callB (cr_max (by rfl)) cd_maxL (by rfl) m_max (by decide +kernel) (da_cons ((vr 18).dv) (da_nil))).dv) ((de_callB (cr_min (by rfl)) cd_minL (by rfl) m_min (by decide +kernel) (da_cons ((vr 17).dv) (da_nil))).dv) (nomark _)))))))) (ds_nil))))))
      (ds_one (d1_if ((dw_or (dt_cmp (or_neA (hu64 hr)) od_neA ((vr 8).dv) ((vr 13).dv) (nomark _)) (dw_or1 (dt_cmp (or_neA (hu64 hr)) od_neA ((de_call c_never_meet hr (by decide) (by rfl) (da_cons ((vr 7).dv) (da_cons ((vr 6).dv) (da_cons ((vr 4).dv) (da_nil))))).dv) ((vr 8).dv) (nomark _)))).dt) (ds_one (d1_ret (de_bl))) (ds_nil)))))))))))))))
      (ds_one (d1_ret (de_and (de_cmp or_is od_is ((de_call c_never_meet hr (by decide) (by rfl) (da_cons ((de_tup (da_nil)).dv) (da_cons ((de_tup (da_nil)).dv) (da_cons (((df_newK).de).dv) (da_nil))))).dv) ((de_bl).dv) (nomark _)) (de_one (de_cmp or_is od_is ((de_call c_never_meet hr (by decide) (by rfl) (da_cons ((de_tup (da_cons ((de_tup (da_cons ((de_int).dv) (da_cons ((de_tup (da_nil)).dv) (da_nil)))).dv) (da_nil))).dv) (da_cons ((de_tup (da_cons ((de_tup (da_cons ((de_int).dv) (da_cons ((de_tup (da_nil)).dv) (da_nil)))).dv) (da_nil))).dv) (da_cons (((df_newK).de).dv) (da_nil))))).dv) ((de_bl).dv) (nomark _)))))))
def F_law : List D → Res := fun ds => noX (resOf [none] none (g_law F__law_draws F__law_take F__law_forms F_never_meet F__law_every F__law_row F__law_divisor F__law_at (startE 21 [none] ds)))
theorem cal_law {P : Program} {w : World} {K : PySem.W.Frag} {mg : Str → Option Value} {base : Heap} {tb : List Addr} {f : Addr} {fd : FuncData} (U : Fun K "law" "law" (top 13) f fd) (gS : mg "law" = some (.ref f)) (m_dict : mg "dict" = none) (m_isinstance : mg "isinstance" = none) (m_bool : mg "bool" = none) (m_max : mg "max" = none) (m_min : mg "min" = none) (m_range : mg "range" = none) (c__law_draws : CalD P w K mg base tb 1 "_law_draws" [none] (some .lst) F__law_draws) (c__law_take : CalD P w K mg base tb 1 "_law_take" [some .lst, none] none F__law_take) (c__law_forms : CalD P w K mg base tb 2 "_law_forms" [some .lst, none, none] none F__law_forms) (c_never_meet : CalD P w K mg base tb 2 "never_meet" [none, none, none] none F_never_meet) (c__law_every : CalD P w K mg base tb 1 "_law_every" [none] none F__law_every) (c__law_row : CalD P w K mg base tb 2 "_law_row" [none, none] none F__law_row) (c__law_divisor : CalD P w K mg base tb 2 "_law_divisor" [none] none F__law_divisor) (c__law_at : CalD P w K mg base tb 1 "_law_at" [none, none] none F__law_at) : CalD P w K mg base tb 3 "law" [none] none F_law :=
  cal_mk U gS sc_law (fun cdv A outer s H E hr => ds_law m_dict m_isinstance m_bool m_max m_min m_range c__law_draws c__law_take c__law_forms c_never_meet c__law_every c__law_row c__law_divisor c__law_at f cdv A outer s H E hr) (fun _ _ _ _ _ _ us hl => match us, hl with | [_], _ => rfl)

end K47
end

section
set_option Elab.async false
set_option autoImplicit false
set_option linter.all false
set_option maxRecDepth 100000
set_option maxHeartbeats 0
/-! k47: the head and the end. -/
namespace K47
open PySem PySem.Spec PyProof.Rows L2 DL
def dd (x : Str) (i : Nat) : He.DefD := ⟨(x, none), x, x, defArgs (top i), defBody (top i), defScope (top i), [], []⟩
def fn : List He.DefD := [dd "span_of" 2, dd "never_meet" 3, dd "_law_draws" 5, dd "_law_take" 6, dd "_law_at" 7, dd "_law_row" 8, dd "_law_forms" 9, dd "_law_every" 10, dd "_law_factors" 11, dd "_law_divisor" 12, dd "law" 13]
def fa : List He.Fa := [.glo "span_of", .glo "never_meet", .glo "_law_draws", .glo "_law_take", .glo "_law_at", .glo "_law_row", .glo "_law_forms", .glo "_law_every", .glo "_law_factors", .glo "_law_divisor", .glo "law", .free "max", .free "min", .free "any", .free "zip", .free "abs", .free "int", .free "range", .free "len", .free "list", .free "reversed", .free "sum", .free "tuple", .free "dict", .free "sorted", .free "isinstance", .free "bool"]
def tf : List He.Defn := [("never_meet", none)]
def ex (K : PySem.W.Frag) : Bool := He.eqO (PySem.W.nsIn K mainGlobals "gcd") (some (some (.builtin "math.gcd")))
abbrev R : PySem.W.OpenRow := PySem.W.OpenLaw.row rw_
abbrev hk : PySem.W.Hook := He.hookX 6 fa fn [] tf ex
def ob (s : PySem.W.SharedT) : He.AlX := He.obsX 6 fa fn [] tf ex (HandSHeadRun.getT s)
theorem ob_eq (s : PySem.W.SharedT) : ob s = hk.obs s.abs := He.obsX_eq (HandSHeadRun.getT_eq s)
def names : List Str := ["span_of", "never_meet", "_law_draws", "_law_take", "_law_at", "_law_row", "_law_forms", "_law_every", "_law_factors", "_law_divisor"]
theorem run (w : World) : HandSHeadRun.RunEqI R (PySem.W.view R.prog [0, 13]) hk ob 6000 names w := by
  unfold HandSHeadRun.RunEqI
  kernel_rfl
theorem facts {w : World} {K : PySem.W.Frag} {h : Heap} {mg : Str → Option Value} {fL : Addr} (KX : K.In h) (G : h.Ns mainGlobals mg) (hfa : mg ("law" : Str) = some (.ref fL)) (c : He.SaysX fa fn [] tf ex w h K)
    (hM : ∀ ns : List Int, ns.length ≤ 63 → ∃ outs, F_law [.list (ns.map .int)] = .ok (.bool true) outs) : LamX.LawAtS rw_ w K CX0 3 63 "script" mg fL h := by
  have cd := c.t.d
  have fr : ∀ (i : Nat) (x : Str), fa[i]? = some (.free x) → mg x = none := fun i x e => He.free_ok KX G (cd.fact i e)
  have gl : ∀ (i : Nat) (x : Str), fa[i]? = some (.glo x) → mg x = some (.ref (He.ga K x)) := fun i x e => He.glo_ok KX G (cd.fact i e)
  have m_gcd : mg "gcd" = some (.builtin "math.gcd") := PySem.W.mg_of KX G (He.eqO_ok c.more)
  have m_max : mg "max" = none := fr 11 "max" rfl
  have m_min : mg "min" = none := fr 12 "min" rfl
  have m_any : mg "any" = none := fr 13 "any" rfl
  have m_zip : mg "zip" = none := fr 14 "zip" rfl
  have m_abs : mg "abs" = none := fr 15 "abs" rfl
  have m_int : mg "int" = none := fr 16 "int" rfl
  have m_range : mg "range" = none := fr 17 "range" rfl
  have m_len : mg "len" = none := fr 18 "len" rfl
  have m_list : mg "list" = none := fr 19 "list" rfl
  have m_reversed : mg "reversed" = none := fr 20 "reversed" rfl
  have m_sum : mg "sum" = none := fr 21 "sum" rfl
  have m_tuple : mg "tuple" = none := fr 22 "tuple" rfl
  have m_dict : mg "dict" = none := fr 23 "dict" rfl
  have m_sorted : mg "sorted" = none := fr 24 "sorted" rfl
  have m_isinstance : mg "isinstance" = none := fr 25 "isinstance" rfl
  have m_bool : mg "bool" = none := fr 26 "bool" rfl
  obtain ⟨fd0, F0⟩ := cd.def_ 0 (d := dd "span_of" 2) rfl
  have U0 : Fun K "span_of" "span_of" (top 2) _ fd0 := fun_ofD F0
  obtain ⟨fd1, F1⟩ := cd.def_ 1 (d := dd "never_meet" 3) rfl
  have U1 : Fun K "never_meet" "never_meet" (top 3) _ fd1 := fun_ofD F1
  have UC1 : FunC K "never_meet" "never_meet" (top 3) _ fd1 _ := funC_of (p := ("never_meet", none)) F1
  obtain ⟨fd2, F2⟩ := cd.def_ 2 (d := dd "_law_draws" 5) rfl
  have U2 : Fun K "_law_draws" "_law_draws" (top 5) _ fd2 := fun_ofD F2
  obtain ⟨fd3, F3⟩ := cd.def_ 3 (d := dd "_law_take" 6) rfl
  have U3 : Fun K "_law_take" "_law_take" (top 6) _ fd3 := fun_ofD F3
  obtain ⟨fd4, F4⟩ := cd.def_ 4 (d := dd "_law_at" 7) rfl
  have U4 : Fun K "_law_at" "_law_at" (top 7) _ fd4 := fun_ofD F4
  obtain ⟨fd5, F5⟩ := cd.def_ 5 (d := dd "_law_row" 8) rfl
  have U5 : Fun K "_law_row" "_law_row" (top 8) _ fd5 := fun_ofD F5
  obtain ⟨fd6, F6⟩ := cd.def_ 6 (d := dd "_law_forms" 9) rfl
  have U6 : Fun K "_law_forms" "_law_forms" (top 9) _ fd6 := fun_ofD F6
  obtain ⟨fd7, F7⟩ := cd.def_ 7 (d := dd "_law_every" 10) rfl
  have U7 : Fun K "_law_every" "_law_every" (top 10) _ fd7 := fun_ofD F7
  obtain ⟨fd8, F8⟩ := cd.def_ 8 (d := dd "_law_factors" 11) rfl
  have U8 : Fun K "_law_factors" "_law_factors" (top 11) _ fd8 := fun_ofD F8
  obtain ⟨fd9, F9⟩ := cd.def_ 9 (d := dd "_law_divisor" 12) rfl
  have U9 : Fun K "_law_divisor" "_law_divisor" (top 12) _ fd9 := fun_ofD F9
  obtain ⟨fd10, F10⟩ := cd.def_ 10 (d := dd "law" 13) rfl
  have e := hfa.symm.trans (gl 10 "law" rfl)
  cases e
  have UL : Fun K "law" "law" (top 13) _ fd10 := fun_ofD F10
  have bL := FunD.bindsA (ps := ["script"]) F10 fun _ _ _ _ _ _ us hl => match us, hl with | [_], _ => rfl
  refine ⟨fd10, tf.map (He.cT K), spF ⟨rw_.prog, w, K⟩ (tf.map fun p => (He.cT K p).2) 1 [none] none F_law, fun p hp => ?_, fun p hp => ?_, fun p hp => ?_, fun s v => bL s [v] rfl, fun H a ns hn _ hT hS => ?_, fun base _ _ hTB => ?_⟩
  · obtain ⟨q, hq, rfl⟩ := List.mem_map.mp hp
    exact c.empty q hq
  · obtain ⟨q, hq, rfl⟩ := List.mem_map.mp hp
    exact c.out q hq
  · obtain ⟨q, hq, rfl⟩ := List.mem_map.mp hp
    exact PySem.W.codeHd_of_K KX (c.hd q hq)
  · obtain ⟨outs, hF⟩ := hM ns hn
    refine law_sp hF (fun P hP => ?_) hS (Nat.le_trans hn (by decide))
    obtain ⟨q, hq, rfl⟩ := List.mem_map.mp hP
    exact hT _ (List.mem_map.mpr ⟨q, hq, rfl⟩)
  · have TB_never_meet : GxR.TabB base mg (He.cT K ("never_meet", none)).1 (He.cT K ("never_meet", none)).2 := by
      have t := hTB (He.cT K ("never_meet", none)) (List.mem_map.mpr ⟨("never_meet", none), by decide, rfl⟩)
      exact ⟨t.code, t.bm, t.gP⟩
    have c_span_of : CalD rw_.prog w K mg base (tf.map fun p => (He.cT K p).2) 1 "span_of" [none, none] none F_span_of := cal_span_of U0 (gl 0 "span_of" rfl) m_max m_min
    have c_never_meet : CalD rw_.prog w K mg base (tf.map fun p => (He.cT K p).2) 2 "never_meet" [none, none, none] none F_never_meet := cal_never_meet TB_never_meet U1 UC1 (gl 1 "never_meet" rfl) m_any m_gcd m_zip c_span_of
    have c__law_draws : CalD rw_.prog w K mg base (tf.map fun p => (He.cT K p).2) 1 "_law_draws" [none] (some .lst) F__law_draws := cal__law_draws U2 (gl 2 "_law_draws" rfl) m_abs m_int m_range m_len m_list m_reversed
    have c__law_take : CalD rw_.prog w K mg base (tf.map fun p => (He.cT K p).2) 1 "_law_take" [some .lst, none] none F__law_take := cal__law_take U3 (gl 3 "_law_take" rfl) m_len m_int
    have c__law_at : CalD rw_.prog w K mg base (tf.map fun p => (He.cT K p).2) 1 "_law_at" [none, none] none F__law_at := cal__law_at U4 (gl 4 "_law_at" rfl) m_sum
    have c__law_row : CalD rw_.prog w K mg base (tf.map fun p => (He.cT K p).2) 2 "_law_row" [none, none] none F__law_row := cal__law_row U5 (gl 5 "_law_row" rfl) m_tuple c__law_at
    have c__law_forms : CalD rw_.prog w K mg base (tf.map fun p => (He.cT K p).2) 2 "_law_forms" [some .lst, none, none] none F__law_forms := cal__law_forms U6 (gl 6 "_law_forms" rfl) m_tuple m_range c__law_take
    have c__law_every : CalD rw_.prog w K mg base (tf.map fun p => (He.cT K p).2) 1 "_law_every" [none] none F__law_every := cal__law_every U7 (gl 7 "_law_every" rfl) m_range m_list m_dict m_sorted
    have c__law_factors : CalD rw_.prog w K mg base (tf.map fun p => (He.cT K p).2) 1 "_law_factors" [none] none F__law_factors := cal__law_factors U8 (gl 8 "_law_factors" rfl) m_abs
    have c__law_divisor : CalD rw_.prog w K mg base (tf.map fun p => (He.cT K p).2) 2 "_law_divisor" [none] none F__law_divisor := cal__law_divisor U9 (gl 9 "_law_divisor" rfl) m_range m_max c__law_factors
    exact fn_data UL sc_law rfl (by decide) (fun cdv A outer s H E hr => ds_law m_dict m_isinstance m_bool m_max m_min m_range c__law_draws c__law_take c__law_forms c_never_meet c__law_every c__law_row c__law_divisor c__law_at _ cdv A outer s H E hr) (fun ds d o h => noX_ok h) (fun ds c o => noX_ne _ _ _)
end K47
end

section
set_option Elab.async false
set_option autoImplicit false
set_option linter.all false
set_option maxRecDepth 100000
set_option maxHeartbeats 2000000
/-! k47: the mathematics. -/
namespace K47
open PySem DL
/-! ### numbers that are drawn -/
theorem take_nil (b : Int) : F__law_take [.list [], .int b] = .ok (.int 0) [.list []] := by
  simp [F__law_take, g__law_take, dSeq, dIf, dIfE, dBin, dBinT, dRet, dRetF, dRetO, dNext, dSet, dSetF, dPar, dAsg, optE, dDrop, toA, dCallB, dCons, dNil, dTup, dLst, dOwn, dVar, dMove, dC, dMt, mPop, mAppend, Rs.bind, Rs.to, opt, get2, Arg.get, getAll, immAll, dTest, dTruth, truD, dNotT, dAndT, dOrT, dAnd, dOr, dNot, gN, gT, gsCons, gsNil, kill, back, startE, noX, resOf, kindsOk, outsOf, dCall, argD, ownIx, setOuts, dItemsA, walkD, itemsD, dEqA_int, dNeA_int, dLt, dLe, dGt, dGe, dAdd, dSub, dMod, dFdiv, gInt, gAbs, gLen, gMin2, gMax2, dIx, dLc, dYes]
theorem take_snoc (xs : List Int) (x b : Int) (hb : b ≠ 0) : F__law_take [.list ((xs ++ [x]).map .int), .int b] = .ok (.int (x.fmod b)) [.list (xs.map .int)] := by
  have h : ¬ ((xs.length : Int) + 1 = 0) := by omega
  simp [F__law_take, g__law_take, dSeq, dIf, dIfE, dBin, dBinT, dRet, dRetF, dRetO, dNext, dSet, dSetF, dPar, dAsg, optE, dDrop, toA, dCallB, dCons, dNil, dTup, dLst, dOwn, dVar, dMove, dC, dMt, mPop, mAppend, Rs.bind, Rs.to, opt, get2, Arg.get, getAll, immAll, dTest, dTruth, truD, dNotT, dAndT, dOrT, dAnd, dOr, dNot, gN, gT, gsCons, gsNil, kill, back, startE, noX, resOf, kindsOk, outsOf, dCall, argD, ownIx, setOuts, dItemsA, walkD, itemsD, dEqA_int, dNeA_int, dLt, dLe, dGt, dGe, dAdd, dSub, dMod, dFdiv, gInt, gAbs, gLen, gMin2, gMax2, dIx, dLc, dYes, hb, h]
theorem take_any (ds : List Int) (b : Int) (hb : 0 < b) : ∃ (v : Int) (ds' : List Int), F__law_take [.list (ds.map .int), .int b] = .ok (.int v) [.list (ds'.map .int)] ∧ 0 ≤ v ∧ v < b := by
  rcases List.eq_nil_or_concat ds with rfl | ⟨xs, x, rfl⟩
  · exact ⟨0, [], take_nil b, Int.le_refl _, hb⟩
  · refine ⟨x.fmod b, xs, ?_, Int.fmod_nonneg_of_pos x hb, Int.fmod_lt_of_pos x hb⟩
    have := take_snoc xs x b (by omega)
    simpa using this
/-! ### steps -/
theorem forC {g : D → DL.Env → Option DL.Env} {b : DL.Env → Rt} {kl : List Nat} {d : D} {ds : List D} {ρ ρ1 ρ2 : DL.Env} (h1 : g d ρ = some ρ1) (h2 : b ρ1 = .nx ρ2) : forL g b kl (d :: ds) ρ = forL g b kl ds (kill kl ρ2) := by
  show (match g d ρ with
    | some ρ1 => _
    | none => Rt.bad) = _
  rw [h1]
  simp only [h2]
theorem sq {g h : DL.Env → Rt} {ρ ρ1 : DL.Env} (e : g ρ = .nx ρ1) : dSeq g h ρ = h ρ1 := by simp [dSeq, e]
theorem forE {fi : DL.Env → Rs (List D)} {g : D → DL.Env → Option DL.Env} {b : DL.Env → Rt} {kl : List Nat} {ρ ρ1 : DL.Env} {ds : List D} (e : fi ρ = .ok ds ρ1) : dFor fi g b kl ρ = forL g b kl ds (kill kl ρ1) := by simp [dFor, e, Rs.to]
theorem atI0 {α : Type} (x : α) (xs : List α) : L2.atI (x :: xs) 0 = some x := L2.atI_nat (j := 0) rfl
theorem rlen (n : Nat) : (rangeD 0 n).length = n := by simp [rangeD]
theorem dr1 {f : DL.Env → Rs D} {ρ ρ1 : DL.Env} {d : D} (e : f ρ = .ok d ρ1) : dRange1 (dCons (toA f) dNil) ρ = opt (gRange1 [d]) ρ1 := by
  simp only [dRange1, dCons, dNil, toA, e, Rs.bind, getAll, Arg.get, Option.bind]
theorem gr1 (n : Nat) (h : (n : Int) < 2 ^ 62) : gRange1 [.int (n : Int)] = some (rangeD 0 n) := by
  have hh : -(2 ^ 62) ≤ (n : Int) ∧ (n : Int) < 2 ^ 62 := ⟨Int.le_trans (Int.neg_nonpos_of_nonneg (Int.le_of_lt (Int.pow_pos (by decide)))) (Int.natCast_nonneg n), h⟩
  simp only [gRange1, if_pos hh, Int.toNat_natCast]
theorem range1 (n : Nat) (h : (n : Int) < 2 ^ 62) (f : DL.Env → Rs D) (ρ ρ1 : DL.Env) (e : f ρ = .ok (.int n) ρ1) : dRange1 (dCons (toA f) dNil) ρ = .ok (rangeD 0 n) ρ1 := by
  rw [dr1 e, gr1 n h, opt]
/-! ### _law_draws -/
def ed (s : D) (ds : List Int) (sp n x4 k sd : Option Cell) : DL.Env := [some (.val s), some (.own .lst (.list (ds.map .int))), sp, n, x4, k, sd]
theorem body0 (s : D) (ds : List Int) (sp x4 sd : Option Cell) (n : Int) (k : D) (hl : ds.length < 16777216) :
    ∃ ds' n', b__law_draws_0 (ed s ds sp (some (.val (.int n))) x4 (some (.val k)) sd) = .nx (ed s ds' sp (some (.val (.int n'))) x4 (some (.val k)) sd) ∧ ds'.length ≤ ds.length + 1 := by
  by_cases h : 0 < n
  · refine ⟨ds ++ [n.fmod 997], n.fdiv 997, ?_, by simp⟩
    simp [b__law_draws_0, ed, dSeq, dIf, dIfE, dBin, dBinT, dRet, dRetF, dRetO, dNext, dSet, dSetF, dPar, dAsg, optE, dDrop, toA, dCallB, dCons, dNil, dTup, dLst, dOwn, dVar, dMove, dC, dMt, mPop, mAppend, Rs.bind, Rs.to, opt, get2, Arg.get, getAll, immAll, dTest, dTruth, truD, dNotT, dAndT, dOrT, dAnd, dOr, dNot, gN, gT, gsCons, gsNil, kill, back, startE, noX, resOf, kindsOk, outsOf, dCall, argD, ownIx, setOuts, dItemsA, walkD, itemsD, dEqA_int, dNeA_int, dLt, dLe, dGt, dGe, dAdd, dSub, dMod, dFdiv, gInt, gAbs, gLen, gMin2, gMax2, dIx, dLc, dYes, h, hl, divOk]
  · refine ⟨ds, n, ?_, by omega⟩
    simp [b__law_draws_0, ed, dSeq, dIf, dIfE, dBin, dBinT, dRet, dRetF, dRetO, dNext, dSet, dSetF, dPar, dAsg, optE, dDrop, toA, dCallB, dCons, dNil, dTup, dLst, dOwn, dVar, dMove, dC, dMt, mPop, mAppend, Rs.bind, Rs.to, opt, get2, Arg.get, getAll, immAll, dTest, dTruth, truD, dNotT, dAndT, dOrT, dAnd, dOr, dNot, gN, gT, gsCons, gsNil, kill, back, startE, noX, resOf, kindsOk, outsOf, dCall, argD, ownIx, setOuts, dItemsA, walkD, itemsD, dEqA_int, dNeA_int, dLt, dLe, dGt, dGe, dAdd, dSub, dMod, dFdiv, gInt, gAbs, gLen, gMin2, gMax2, dIx, dLc, dYes, h]
theorem loop0 (s : D) (sp x4 sd : Option Cell) : ∀ (ks : List D) (ds : List Int) (n : Int), ds.length + ks.length < 16777216 →
    ∃ ds' n', forL (gN 5) b__law_draws_0 [5] ks (ed s ds sp (some (.val (.int n))) x4 none sd) = .nx (ed s ds' sp (some (.val (.int n'))) x4 none sd) ∧ ds'.length ≤ ds.length + ks.length
  | [], ds, n, _ => ⟨ds, n, rfl, by simp⟩
  | k :: ks, ds, n, h => by
    simp only [List.length_cons] at h
    obtain ⟨ds1, n1, e1, l1⟩ := body0 s ds sp x4 sd n k (by omega)
    obtain ⟨ds2, n2, e2, l2⟩ := loop0 s sp x4 sd ks ds1 n1 (by omega)
    refine ⟨ds2, n2, ?_, by simp only [List.length_cons]; omega⟩
    rw [forC (ρ1 := ed s ds sp (some (.val (.int n))) x4 (some (.val k)) sd) rfl e1]
    exact e2
theorem body1 (s : D) (ds : List Int) (a : Int) (hl : ds.length + 62 < 16777216) :
    ∃ ds' n' x4, b__law_draws_1 (ed s ds (some (.val (.int a))) none none none none) = .nx (ed s ds' (some (.val (.int a))) (some (.val (.int n'))) x4 none none) ∧ ds'.length ≤ ds.length + 62 := by
  have h0 : ds.length < 16777216 := by omega
  have h1 : ds.length + 1 < 16777216 := by omega
  have fin : ∀ (ds1 : List Int) (n1 : Int) (x4 : Option Cell), ds1.length ≤ ds.length + 2 → ∃ ds' n', dFor (dRange1 (dCons (toA (dC (.int 60))) (dNil))) (gN 5) (b__law_draws_0) [5] (ed s ds1 (some (.val (.int a))) (some (.val (.int n1))) x4 none none) = .nx (ed s ds' (some (.val (.int a))) (some (.val (.int n'))) x4 none none) ∧ ds'.length ≤ ds.length + 62 := fun ds1 n1 x4 hd => by
    obtain ⟨ds', n', e, l⟩ := loop0 s (some (.val (.int a))) x4 none (rangeD 0 60) ds1 n1 (by rw [rlen]; omega)
    refine ⟨ds', n', ?_, by rw [rlen] at l; omega⟩
    rw [forE (range1 60 (by decide) (dC (.int 60)) _ _ rfl)]
    exact e
  unfold b__law_draws_1
  by_cases h : (if a < 0 then -a else a) < 1000000000000000000
  · obtain ⟨ds', n', e, l⟩ := fin (ds ++ [((((if a < 0 then -a else a) * 48271 + 11).fmod 2147483647) * 69621 + (if a < 0 then -a else a)).fmod 2147483629] ++ [((((if a < 0 then -a else a) * 48271 + 11).fmod 2147483647) + (if a < 0 then -a else a).fdiv 7).fmod 1000003]) 0 (some (.val (.int (((if a < 0 then -a else a) * 48271 + 11).fmod 2147483647)))) (by simp)
    refine ⟨ds', n', some (.val (.int (((if a < 0 then -a else a) * 48271 + 11).fmod 2147483647))), ?_, l⟩
    rw [← e]
    rw [sq (ρ1 := ed s ds (some (.val (.int a))) (some (.val (.int (if a < 0 then -a else a)))) none none none) (by simp [ed, dSeq, dIf, dIfE, dBin, dBinT, dRet, dRetF, dRetO, dNext, dSet, dSetF, dPar, dAsg, optE, dDrop, toA, dCallB, dCons, dNil, dTup, dLst, dOwn, dVar, dMove, dC, dMt, mPop, mAppend, Rs.bind, Rs.to, opt, get2, Arg.get, getAll, immAll, dTest, dTruth, truD, dNotT, dAndT, dOrT, dAnd, dOr, dNot, gN, gT, gsCons, gsNil, kill, back, startE, noX, resOf, kindsOk, outsOf, dCall, argD, ownIx, setOuts, dItemsA, walkD, itemsD, dEqA_int, dNeA_int, dLt, dLe, dGt, dGe, dAdd, dSub, dMod, dFdiv, gInt, gAbs, gLen, gMin2, gMax2, dIx, dLc, dYes])]
    refine sq ?_
    simp [ed, dSeq, dIf, dIfE, dBin, dBinT, dRet, dRetF, dRetO, dNext, dSet, dSetF, dPar, dAsg, optE, dDrop, toA, dCallB, dCons, dNil, dTup, dLst, dOwn, dVar, dMove, dC, dMt, mPop, mAppend, Rs.bind, Rs.to, opt, get2, Arg.get, getAll, immAll, dTest, dTruth, truD, dNotT, dAndT, dOrT, dAnd, dOr, dNot, gN, gT, gsCons, gsNil, kill, back, startE, noX, resOf, kindsOk, outsOf, dCall, argD, ownIx, setOuts, dItemsA, walkD, itemsD, dEqA_int, dNeA_int, dLt, dLe, dGt, dGe, dAdd, dSub, dMod, dFdiv, gInt, gAbs, gLen, gMin2, gMax2, dIx, dLc, dYes, dPow, dMul, mulOk, divOk, h, h0, h1]
  · obtain ⟨ds', n', e, l⟩ := fin ds (if a < 0 then -a else a) none (by omega)
    refine ⟨ds', n', none, ?_, l⟩
    rw [← e]
    rw [sq (ρ1 := ed s ds (some (.val (.int a))) (some (.val (.int (if a < 0 then -a else a)))) none none none) (by simp [ed, dSeq, dIf, dIfE, dBin, dBinT, dRet, dRetF, dRetO, dNext, dSet, dSetF, dPar, dAsg, optE, dDrop, toA, dCallB, dCons, dNil, dTup, dLst, dOwn, dVar, dMove, dC, dMt, mPop, mAppend, Rs.bind, Rs.to, opt, get2, Arg.get, getAll, immAll, dTest, dTruth, truD, dNotT, dAndT, dOrT, dAnd, dOr, dNot, gN, gT, gsCons, gsNil, kill, back, startE, noX, resOf, kindsOk, outsOf, dCall, argD, ownIx, setOuts, dItemsA, walkD, itemsD, dEqA_int, dNeA_int, dLt, dLe, dGt, dGe, dAdd, dSub, dMod, dFdiv, gInt, gAbs, gLen, gMin2, gMax2, dIx, dLc, dYes])]
    refine sq ?_
    simp [ed, dSeq, dIf, dIfE, dBin, dBinT, dRet, dRetF, dRetO, dNext, dSet, dSetF, dPar, dAsg, optE, dDrop, toA, dCallB, dCons, dNil, dTup, dLst, dOwn, dVar, dMove, dC, dMt, mPop, mAppend, Rs.bind, Rs.to, opt, get2, Arg.get, getAll, immAll, dTest, dTruth, truD, dNotT, dAndT, dOrT, dAnd, dOr, dNot, gN, gT, gsCons, gsNil, kill, back, startE, noX, resOf, kindsOk, outsOf, dCall, argD, ownIx, setOuts, dItemsA, walkD, itemsD, dEqA_int, dNeA_int, dLt, dLe, dGt, dGe, dAdd, dSub, dMod, dFdiv, gInt, gAbs, gLen, gMin2, gMax2, dIx, dLc, dYes, dPow, dMul, mulOk, divOk, h, h0, h1]
theorem loop1 (s : D) : ∀ (ns : List Int) (ds : List Int), ds.length + 62 * ns.length < 16777216 →
    ∃ ds', forL (gN 2) b__law_draws_1 [2, 3, 4, 5] (ns.map .int) (ed s ds none none none none none) = .nx (ed s ds' none none none none none) ∧ ds'.length ≤ ds.length + 62 * ns.length
  | [], ds, _ => ⟨ds, rfl, by simp⟩
  | a :: ns, ds, h => by
    simp only [List.length_cons] at h
    obtain ⟨ds1, n1, x4, e1, l1⟩ := body1 s ds a (by omega)
    obtain ⟨ds2, e2, l2⟩ := loop1 s ns ds1 (by omega)
    refine ⟨ds2, ?_, by simp only [List.length_cons]; omega⟩
    rw [List.map_cons, forC (ρ1 := ed s ds (some (.val (.int a))) none none none none) rfl e1]
    exact e2
theorem body2 (s : D) (ds : List Int) (sd : Int) (k : D) (hl : ds.length < 16777216) :
    ∃ ds' sd', b__law_draws_2 (ed s ds none none none (some (.val k)) (some (.val (.int sd)))) = .nx (ed s ds' none none none (some (.val k)) (some (.val (.int sd')))) ∧ ds'.length ≤ ds.length + 1 := by
  refine ⟨ds ++ [((sd * 48271 + 69621).fmod 2147483647).fdiv 5], (sd * 48271 + 69621).fmod 2147483647, ?_, by simp⟩
  simp [b__law_draws_2, ed, dSeq, dIf, dIfE, dBin, dBinT, dRet, dRetF, dRetO, dNext, dSet, dSetF, dPar, dAsg, optE, dDrop, toA, dCallB, dCons, dNil, dTup, dLst, dOwn, dVar, dMove, dC, dMt, mPop, mAppend, Rs.bind, Rs.to, opt, get2, Arg.get, getAll, immAll, dTest, dTruth, truD, dNotT, dAndT, dOrT, dAnd, dOr, dNot, gN, gT, gsCons, gsNil, kill, back, startE, noX, resOf, kindsOk, outsOf, dCall, argD, ownIx, setOuts, dItemsA, walkD, itemsD, dEqA_int, dNeA_int, dLt, dLe, dGt, dGe, dAdd, dSub, dMod, dFdiv, gInt, gAbs, gLen, gMin2, gMax2, dIx, dLc, dYes, dMul, mulOk, divOk, hl]
theorem loop2 (s : D) : ∀ (ks : List D) (ds : List Int) (sd : Int), ds.length + ks.length < 16777216 →
    ∃ ds' sd', forL (gN 5) b__law_draws_2 [5] ks (ed s ds none none none none (some (.val (.int sd)))) = .nx (ed s ds' none none none none (some (.val (.int sd')))) ∧ ds'.length ≤ ds.length + ks.length
  | [], ds, sd, _ => ⟨ds, sd, rfl, by simp⟩
  | k :: ks, ds, sd, h => by
    simp only [List.length_cons] at h
    obtain ⟨ds1, n1, e1, l1⟩ := body2 s ds sd k (by omega)
    obtain ⟨ds2, n2, e2, l2⟩ := loop2 s ks ds1 n1 (by omega)
    refine ⟨ds2, n2, ?_, by simp only [List.length_cons]; omega⟩
    rw [forC (ρ1 := ed s ds none none none (some (.val k)) (some (.val (.int sd)))) rfl e1]
    exact e2
theorem draws_any (ns : List Int) (h : ns.length ≤ 63) : ∃ ds : List Int, F__law_draws [.list (ns.map .int)] = .ok (.list (ds.map .int)) [] := by
  obtain ⟨ds1, e1, l1⟩ := loop1 (.list (ns.map .int)) ns [] (by simp; omega)
  have key : ∀ sd : Int, ∃ (ds : List Int) (ρ : DL.Env), dSeq (dFor (dRange1 (dCons (toA (dC (.int 900))) (dNil))) (gN 5) (b__law_draws_2) [5]) (dRetF .lst (dListRev (dOwn 1))) (ed (.list (ns.map .int)) ds1 none none none none (some (.val (.int sd)))) = .rtf .lst (.list (ds.map .int)) (some (.val (.list (ns.map .int))) :: ρ) := fun sd => by
    obtain ⟨ds2, sd2, e2, l2⟩ := loop2 (.list (ns.map .int)) (rangeD 0 900) ds1 sd (by simp [rlen] at l1 ⊢; omega)
    refine ⟨ds2.reverse, [some (.own .lst (.list (ds2.map .int))), none, none, none, none, some (.val (.int sd2))], ?_⟩
    rw [sq (ρ1 := ed (.list (ns.map .int)) ds2 none none none none (some (.val (.int sd2)))) (by rw [forE (range1 900 (by decide) (dC (.int 900)) _ _ rfl)]; exact e2)]
    simp [ed, dSeq, dIf, dIfE, dBin, dBinT, dRet, dRetF, dRetO, dNext, dSet, dSetF, dPar, dAsg, optE, dDrop, toA, dCallB, dCons, dNil, dTup, dLst, dOwn, dVar, dMove, dC, dMt, mPop, mAppend, Rs.bind, Rs.to, opt, get2, Arg.get, getAll, immAll, dTest, dTruth, truD, dNotT, dAndT, dOrT, dAnd, dOr, dNot, gN, gT, gsCons, gsNil, kill, back, startE, noX, resOf, kindsOk, outsOf, dCall, argD, ownIx, setOuts, dItemsA, walkD, itemsD, dEqA_int, dNeA_int, dLt, dLe, dGt, dGe, dAdd, dSub, dMod, dFdiv, gInt, gAbs, gLen, gMin2, gMax2, dIx, dLc, dYes, dListRev]
  have seed : ∃ sd : Int, dIf (dBinT dGt (toA (dCallB gLen (dCons (toA (dVar 0)) (dNil)))) (toA (dC (.int 0)))) (dSet 6 (dBin dAdd (toA (dC (.int 1))) (toA (dCallB gAbs (dCons (toA (dBin dIx (toA (dVar 0)) (toA (dC (.int 0))))) (dNil)))))) (dNext) (ed (.list (ns.map .int)) ds1 none none none none (some (.val (.int 1)))) = .nx (ed (.list (ns.map .int)) ds1 none none none none (some (.val (.int sd)))) := by
    cases ns with
    | nil => exact ⟨1, by simp [ed, dSeq, dIf, dIfE, dBin, dBinT, dRet, dRetF, dRetO, dNext, dSet, dSetF, dPar, dAsg, optE, dDrop, toA, dCallB, dCons, dNil, dTup, dLst, dOwn, dVar, dMove, dC, dMt, mPop, mAppend, Rs.bind, Rs.to, opt, get2, Arg.get, getAll, immAll, dTest, dTruth, truD, dNotT, dAndT, dOrT, dAnd, dOr, dNot, gN, gT, gsCons, gsNil, kill, back, startE, noX, resOf, kindsOk, outsOf, dCall, argD, ownIx, setOuts, dItemsA, walkD, itemsD, dEqA_int, dNeA_int, dLt, dLe, dGt, dGe, dAdd, dSub, dMod, dFdiv, gInt, gAbs, gLen, gMin2, gMax2, dIx, dLc, dYes]⟩
    | cons a r =>
      refine ⟨1 + (if a < 0 then -a else a), ?_⟩
      have h2 : (0 : Int) < (r.length : Int) + 1 := by omega
      simp [ed, dSeq, dIf, dIfE, dBin, dBinT, dRet, dRetF, dRetO, dNext, dSet, dSetF, dPar, dAsg, optE, dDrop, toA, dCallB, dCons, dNil, dTup, dLst, dOwn, dVar, dMove, dC, dMt, mPop, mAppend, Rs.bind, Rs.to, opt, get2, Arg.get, getAll, immAll, dTest, dTruth, truD, dNotT, dAndT, dOrT, dAnd, dOr, dNot, gN, gT, gsCons, gsNil, kill, back, startE, noX, resOf, kindsOk, outsOf, dCall, argD, ownIx, setOuts, dItemsA, walkD, itemsD, dEqA_int, dNeA_int, dLt, dLe, dGt, dGe, dAdd, dSub, dMod, dFdiv, gInt, gAbs, gLen, gMin2, gMax2, dIx, dLc, dYes, h2, atI0]
  obtain ⟨sd, e2⟩ := seed
  obtain ⟨ds, ρ, e3⟩ := key sd
  refine ⟨ds, ?_⟩
  have e4 : g__law_draws (startE 7 [none] [.list (ns.map .int)]) = .rtf .lst (.list (ds.map .int)) (some (.val (.list (ns.map .int))) :: ρ) := by
    unfold g__law_draws
    rw [sq (ρ1 := ed (.list (ns.map .int)) [] none none none none none) (by simp [ed, dSeq, dIf, dIfE, dBin, dBinT, dRet, dRetF, dRetO, dNext, dSet, dSetF, dPar, dAsg, optE, dDrop, toA, dCallB, dCons, dNil, dTup, dLst, dOwn, dVar, dMove, dC, dMt, mPop, mAppend, Rs.bind, Rs.to, opt, get2, Arg.get, getAll, immAll, dTest, dTruth, truD, dNotT, dAndT, dOrT, dAnd, dOr, dNot, gN, gT, gsCons, gsNil, kill, back, startE, noX, resOf, kindsOk, outsOf, dCall, argD, ownIx, setOuts, dItemsA, walkD, itemsD, dEqA_int, dNeA_int, dLt, dLe, dGt, dGe, dAdd, dSub, dMod, dFdiv, gInt, gAbs, gLen, gMin2, gMax2, dIx, dLc, dYes])]
    rw [sq (ρ1 := ed (.list (ns.map .int)) ds1 none none none none none) (by rw [forE (ds := ns.map .int) (ρ1 := ed (.list (ns.map .int)) [] none none none none none) (by simp [ed, dSeq, dIf, dIfE, dBin, dBinT, dRet, dRetF, dRetO, dNext, dSet, dSetF, dPar, dAsg, optE, dDrop, toA, dCallB, dCons, dNil, dTup, dLst, dOwn, dVar, dMove, dC, dMt, mPop, mAppend, Rs.bind, Rs.to, opt, get2, Arg.get, getAll, immAll, dTest, dTruth, truD, dNotT, dAndT, dOrT, dAnd, dOr, dNot, gN, gT, gsCons, gsNil, kill, back, startE, noX, resOf, kindsOk, outsOf, dCall, argD, ownIx, setOuts, dItemsA, walkD, itemsD, dEqA_int, dNeA_int, dLt, dLe, dGt, dGe, dAdd, dSub, dMod, dFdiv, gInt, gAbs, gLen, gMin2, gMax2, dIx, dLc, dYes])]; exact e1)]
    rw [sq (ρ1 := ed (.list (ns.map .int)) ds1 none none none none (some (.val (.int 1)))) (by simp [ed, dSeq, dIf, dIfE, dBin, dBinT, dRet, dRetF, dRetO, dNext, dSet, dSetF, dPar, dAsg, optE, dDrop, toA, dCallB, dCons, dNil, dTup, dLst, dOwn, dVar, dMove, dC, dMt, mPop, mAppend, Rs.bind, Rs.to, opt, get2, Arg.get, getAll, immAll, dTest, dTruth, truD, dNotT, dAndT, dOrT, dAnd, dOr, dNot, gN, gT, gsCons, gsNil, kill, back, startE, noX, resOf, kindsOk, outsOf, dCall, argD, ownIx, setOuts, dItemsA, walkD, itemsD, dEqA_int, dNeA_int, dLt, dLe, dGt, dGe, dAdd, dSub, dMod, dFdiv, gInt, gAbs, gLen, gMin2, gMax2, dIx, dLc, dYes])]
    rw [sq e2]
    exact e3
  show noX (resOf [none] (some .lst) (g__law_draws (startE 7 [none] [.list (ns.map .int)]))) = _
  rw [e4]
  simp [resOf, noX, kindsOk, outsOf]
end K47
end

section
set_option Elab.async false
set_option autoImplicit false
set_option linter.all false
set_option maxRecDepth 100000
set_option maxHeartbeats 2000000
namespace K47
open PySem DL
/-! ### comprehensions -/
theorem lcF {g : D → DL.Env → Option DL.Env} {tt : DL.Env → Rs Bool} {f : DL.Env → Rs D} {vs : List Nat} (p : D → Bool) (h : D → D) {ρ : DL.Env} : ∀ (ds acc : List D), (∀ d ∈ ds, ∃ ρ1, g d ρ = some ρ1 ∧ tt ρ1 = .ok (p d) ρ1 ∧ (p d = true → f ρ1 = .ok (h d) ρ1) ∧ kill vs ρ1 = ρ) → lcL g tt f vs ds acc ρ = some (acc ++ (ds.filter p).map h, ρ)
  | [], acc, _ => by simp [lcL]
  | d :: ds, acc, H => by
    obtain ⟨ρ1, e1, e2, e3, e4⟩ := H d List.mem_cons_self
    have ih := fun acc => lcF p h ds acc fun d hd => H d (List.mem_cons_of_mem _ hd)
    unfold lcL
    rw [e1]
    simp only [Option.bind]
    rw [e2]
    simp only [okO]
    cases hp : p d with
    | true =>
      rw [e3 hp]
      simp only [if_true, e4]
      rw [ih, List.filter_cons_of_pos hp, List.map_cons, List.append_assoc]
      rfl
    | false =>
      simp only [Bool.false_eq_true, if_false, e4]
      rw [ih, List.filter_cons_of_neg (by simp [hp])]
theorem lcE {fi : DL.Env → Rs (List D)} {g : D → DL.Env → Option DL.Env} {tt : DL.Env → Rs Bool} {f : DL.Env → Rs D} {vs : List Nat} (p : D → Bool) (h : D → D) {ρ ρ0 : DL.Env} {ds : List D} (e : fi ρ = .ok ds ρ0) (hl : ds.length ≤ 16777216) (hb : back vs ρ0 (kill vs (kill vs ρ0)) = ρ0)
    (hs : ∀ d ∈ ds, ∃ ρ1, g d (kill vs ρ0) = some ρ1 ∧ tt ρ1 = .ok (p d) ρ1 ∧ (p d = true → f ρ1 = .ok (h d) ρ1) ∧ kill vs ρ1 = kill vs ρ0) : dLc fi g tt f vs ρ = .ok (.list ((ds.filter p).map h)) ρ0 := by
  unfold dLc
  rw [e]
  simp only [Rs.bind]
  rw [if_pos hl, lcF p h ds [] hs]
  simp only [List.nil_append, hb]
theorem lcA {fi : DL.Env → Rs (List D)} {g : D → DL.Env → Option DL.Env} {f : DL.Env → Rs D} {vs : List Nat} (h : D → D) {ρ ρ0 : DL.Env} {ds : List D} (e : fi ρ = .ok ds ρ0) (hl : ds.length ≤ 16777216) (hb : back vs ρ0 (kill vs (kill vs ρ0)) = ρ0)
    (hs : ∀ d ∈ ds, ∃ ρ1, g d (kill vs ρ0) = some ρ1 ∧ f ρ1 = .ok (h d) ρ1 ∧ kill vs ρ1 = kill vs ρ0) : dLc fi g dYes f vs ρ = .ok (.list (ds.map h)) ρ0 := by
  have := lcE (tt := dYes) (fun _ => true) h e hl hb fun d hd => by
    obtain ⟨ρ1, a, b, c⟩ := hs d hd
    exact ⟨ρ1, a, rfl, fun _ => b, c⟩
  rw [this, List.filter_eq_self.mpr (fun _ _ => rfl)]
/-! ### data -/
abbrev Terms := List (Str × Int)
abbrev Form := Int × Terms
def encT (t : Terms) : List D := t.map fun p => .tuple [.str p.1, .int p.2]
def encF (f : Form) : D := .tuple [.int f.1, .tuple (encT f.2)]
def encR (r : Terms) : D := .dict (r.map fun p => (.str p.1, .int p.2))
def getO (r : Terms) (x : Str) : Option Int := (r.find? fun p => decide (p.1 = x)).map (·.2)
def val (r : Terms) (x : Str) : Int := (getO r x).getD 0
theorem kfind_enc (r : Terms) (x : Str) : kfind (r.map fun p => ((.str p.1, .int p.2) : D × D)) (.text x) = (getO r x).map .int := by
  induction r with
  | nil => rfl
  | cons p r ih =>
    by_cases e : p.1 = x
    · rw [List.map_cons, kfind_pos (by simp [keyOf, e])]
      simp [getO, List.find?_cons, e]
    · rw [List.map_cons, kfind_neg (by simp [keyOf, e]), ih]
      simp [getO, List.find?_cons, e]
theorem getI_enc {r : Terms} {x : Str} (h : (getO r x).isSome = true) : dGetI (encR r) (.str x) = some (.int (val r x)) := by
  show kfind _ _ = _
  rw [kfind_enc]
  unfold val
  cases e : getO r x with
  | none => rw [e] at h; cases h
  | some v => rfl
theorem ix_enc {r : Terms} {x : Str} (h : (getO r x).isSome = true) : dIx (encR r) (.str x) = some (.int (val r x)) := getI_enc h
theorem ix_f0 (f : Form) : dIx (encF f) (.int 0) = some (.int f.1) := atI0 _ _
theorem ix_f1 (f : Form) : dIx (encF f) (.int 1) = some (.tuple (encT f.2)) := by
  show L2.atI [PyData.int f.1, PyData.tuple (encT f.2)] ((1 : Nat) : Int) = _
  exact L2.atI_nat (j := 1) rfl
/-- the names of f are known in r, its factors are small -/
def Ok (r : Terms) (f : Form) : Prop := ∀ p ∈ f.2, (getO r p.1).isSome = true ∧ -4 ≤ p.2 ∧ p.2 ≤ 4
theorem mul_ok {a b : Int} (h : -4 ≤ a ∧ a ≤ 4) : mulOk a b = true := by
  unfold mulOk
  have : a.natAbs < 2 ^ 64 := by
    have : a.natAbs ≤ 4 := by omega
    omega
  simp [this]
def atF (f : Form) (r : Terms) : Int := f.1 + (f.2.map fun p => p.2 * val r p.1).sum
theorem eval_at {f : Form} {r : Terms} (ok : Ok r f) (hl : f.2.length ≤ 100) : F__law_at [encF f, encR r] = .ok (.int (atF f r)) [] := by
  have e : dLc (dItemsA (dBin dIx (toA (dVar 0)) (toA (dC (.int 1))))) (gT (gsCons (gN 2) (gsCons (gN 3) (gsNil))) 2) (dYes) (dBin dMul (toA (dVar 3)) (toA (dBin dIx (toA (dVar 1)) (toA (dVar 2))))) [2, 3] [some (.val (encF f)), some (.val (encR r)), none, none] = .ok (.list ((encT f.2).map fun d => match d with
      | .tuple [.str n, .int c] => .int (c * val r n)
      | _ => .none)) [some (.val (encF f)), some (.val (encR r)), none, none] := by
    refine lcA (ds := encT f.2) _ (by simp [dItemsA, walkD, itemsD, dBin, toA, dVar, dC, Rs.bind, opt, get2, Arg.get, ix_f1]) (by simp [encT]; omega) rfl fun d hd => ?_
    obtain ⟨p, hp, rfl⟩ := List.mem_map.mp hd
    obtain ⟨o1, o2, o3⟩ := ok p hp
    refine ⟨[some (.val (encF f)), some (.val (encR r)), some (.val (.str p.1)), some (.val (.int p.2))], rfl, ?_, rfl⟩
    simp [dBin, toA, dVar, Rs.bind, opt, get2, Arg.get, ix_enc o1, dMul, mul_ok (b := val r p.1) ⟨o2, o3⟩]
  have e2 : (encT f.2).map (fun d => match d with
      | .tuple [.str n, .int c] => .int (c * val r n)
      | _ => .none) = (f.2.map fun p => p.2 * val r p.1).map PyData.int := by
    simp [encT, List.map_map, Function.comp_def]
  have e3 : dCons (toA (dLc (dItemsA (dBin dIx (toA (dVar 0)) (toA (dC (.int 1))))) (gT (gsCons (gN 2) (gsCons (gN 3) (gsNil))) 2) (dYes) (dBin dMul (toA (dVar 3)) (toA (dBin dIx (toA (dVar 1)) (toA (dVar 2))))) [2, 3])) dNil [some (.val (encF f)), some (.val (encR r)), none, none] = .ok [.imm (.list ((f.2.map fun p => p.2 * val r p.1).map PyData.int))] [some (.val (encF f)), some (.val (encR r)), none, none] := by
    simp only [dCons, toA, e, Rs.bind, dNil, e2]
  show noX (resOf [none, none] none (g__law_at (startE 4 [none, none] [encF f, encR r]))) = _
  clear e e2
  unfold atF
  generalize (f.2.map fun p => p.2 * val r p.1) = vs at e3 ⊢
  have e4 : g__law_at [some (.val (encF f)), some (.val (encR r)), none, none] =   .rt (.int (f.1 + vs.sum)) [some (.val (encF f)), some (.val (encR r)), none, none] := by
    simp [g__law_at, dRet, dBin, dCallB, toA, dVar, dC, Rs.bind, opt, get2, Arg.get, ix_f0, e3, getAll, gSum, intsOf_map, dAdd, Rs.to]
  show noX (resOf [none, none] none (g__law_at [some (.val (encF f)), some (.val (encR r)), none, none])) = _
  rw [e4]
  simp [resOf, noX, kindsOk, outsOf]
theorem fin {ln : Ln} {g : DL.Env → Rt} {d : D} {ρ ρ' : DL.Env} (e : g ρ = .rt d ρ') (hk : kindsOk ln ρ' = true) : noX (resOf ln none (g ρ)) = .ok d (outsOf ln ρ') := by
  rw [e]
  simp [resOf, noX, hk]
theorem eval_row {fs : List Form} {r : Terms} (ok : ∀ f ∈ fs, Ok r f ∧ f.2.length ≤ 100) (hl : fs.length ≤ 100) : F__law_row [.tuple (fs.map encF), encR r] = .ok (.tuple (fs.map fun f => .int (atF f r))) [] := by
  have e : dLc (dItemsA (dVar 0)) (gN 2) (dYes) (dCall [none, none] F__law_at (dCons (toA (dVar 2)) (dCons (toA (dVar 1)) (dNil)))) [2] [some (.val (.tuple (fs.map encF))), some (.val (encR r)), none] = .ok (.list ((fs.map encF).map fun d => match F__law_at [d, encR r] with
      | .ok z _ => z
      | _ => .none)) [some (.val (.tuple (fs.map encF))), some (.val (encR r)), none] := by
    refine lcA (ds := fs.map encF) _ (by simp [dItemsA, walkD, itemsD, dVar, Rs.bind, opt]) (by simp; omega) rfl fun d hd => ?_
    obtain ⟨f, hf, rfl⟩ := List.mem_map.mp hd
    refine ⟨[some (.val (.tuple (fs.map encF))), some (.val (encR r)), some (.val (encF f))], rfl, ?_, rfl⟩
    simp [dCall, dCons, dNil, toA, dVar, Rs.bind, argD, ownIx, setOuts, eval_at (ok f hf).1 (ok f hf).2]
  have e2 : (fs.map encF).map (fun d => match F__law_at [d, encR r] with
      | .ok z _ => z
      | _ => .none) = fs.map fun f => .int (atF f r) := by
    rw [List.map_map]
    refine List.map_congr_left fun f hf => ?_
    simp [eval_at (ok f hf).1 (ok f hf).2]
  rw [e2] at e
  show noX (resOf [none, none] none (g__law_row F__law_at [some (.val (.tuple (fs.map encF))), some (.val (encR r)), none])) = _
  refine fin (ln := [none, none]) (ρ' := [some (.val (.tuple (fs.map encF))), some (.val (encR r)), none]) ?_ rfl
  simp only [g__law_row, dRet, dCallB, dCons, toA, e, Rs.bind, dNil, getAll, Arg.get, Option.bind, gTuple, opt, Rs.to]
/-! ### factors, their divisor -/
def facs (fs : List Form) : List Int := fs.flatMap fun f => f.2.map fun p => if p.2 < 0 then -p.2 else p.2
theorem absL {t : Terms} (f0 fd nm : D) (hl : t.length ≤ 100) : dLc (dItemsA (dVar 3)) (gT (gsCons (gN 4) (gsCons (gN 5) (gsNil))) 2) (dYes) (dCallB gAbs (dCons (toA (dVar 5)) (dNil))) [4, 5] [some (.val f0), some (.val fd), some (.val nm), some (.val (.tuple (encT t))), none, none] = .ok (.list ((t.map fun p => if p.2 < 0 then -p.2 else p.2).map .int)) [some (.val f0), some (.val fd), some (.val nm), some (.val (.tuple (encT t))), none, none] := by
  have e := lcA (fi := dItemsA (dVar 3)) (g := gT (gsCons (gN 4) (gsCons (gN 5) (gsNil))) 2) (f := dCallB gAbs (dCons (toA (dVar 5)) (dNil))) (vs := [4, 5]) (ρ := [some (.val f0), some (.val fd), some (.val nm), some (.val (.tuple (encT t))), none, none]) (ρ0 := [some (.val f0), some (.val fd), some (.val nm), some (.val (.tuple (encT t))), none, none]) (ds := encT t) (fun d => match d with
      | .tuple [.str n, .int c] => .int (if c < 0 then -c else c)
      | _ => .none) (by simp [dItemsA, walkD, itemsD, dVar, Rs.bind, opt]) (by simp [encT]; omega) rfl fun d hd => by
    obtain ⟨p, hp, rfl⟩ := List.mem_map.mp hd
    refine ⟨[some (.val f0), some (.val fd), some (.val nm), some (.val (.tuple (encT t))), some (.val (.str p.1)), some (.val (.int p.2))], rfl, ?_, rfl⟩
    simp [dCallB, dCons, dNil, toA, dVar, Rs.bind, getAll, Arg.get, gAbs, opt]
  rw [e]
  simp [encT, List.map_map, Function.comp_def]
theorem loopF (f0 : D) : ∀ (fs : List Form) (acc : List Int), (∀ f ∈ fs, f.2.length ≤ 100) → acc.length + 100 * fs.length ≤ 16777216 →
    forL (gT (gsCons (gN 2) (gsCons (gN 3) gsNil)) 2) b__law_factors_0 [2, 3] (fs.map encF) [some (.val f0), some (.val (.list (acc.map .int))), none, none, none, none] = .nx [some (.val f0), some (.val (.list ((acc ++ facs fs).map .int))), none, none, none, none]
  | [], acc, _, _ => by simp [forL, facs]
  | f :: fs, acc, hf, hl => by
    simp only [List.length_cons] at hl
    have h1 := hf f List.mem_cons_self
    have b : b__law_factors_0 [some (.val f0), some (.val (.list (acc.map .int))), some (.val (.int f.1)), some (.val (.tuple (encT f.2))), none, none] = .nx [some (.val f0), some (.val (.list ((acc ++ f.2.map fun p => if p.2 < 0 then -p.2 else p.2).map .int))), some (.val (.int f.1)), some (.val (.tuple (encT f.2))), none, none] := by
      have e := absL (t := f.2) f0 (.list (acc.map .int)) (.int f.1) h1
      generalize hv : (f.2.map fun p => if p.2 < 0 then -p.2 else p.2) = vs at e ⊢
      have hl2 : vs.length = f.2.length := by rw [← hv, List.length_map]
      have hz : acc.length + vs.length ≤ 16777216 := by omega
      simp [b__law_factors_0, dSet, dBin, toA, dVar, Rs.bind, e, opt, get2, Arg.get, dAdd, Rs.to, hz]
    rw [List.map_cons, forC (ρ1 := [some (.val f0), some (.val (.list (acc.map .int))), some (.val (.int f.1)), some (.val (.tuple (encT f.2))), none, none]) rfl b]
    have ih := loopF f0 fs (acc ++ f.2.map fun p => if p.2 < 0 then -p.2 else p.2) (fun q hq => hf q (List.mem_cons_of_mem _ hq)) (by simp only [List.length_append, List.length_map]; omega)
    refine Eq.trans ih ?_
    rw [List.append_assoc]
    rfl
theorem eval_factors {fs : List Form} (hf : ∀ f ∈ fs, f.2.length ≤ 100) (hl : fs.length ≤ 100) : F__law_factors [.list (fs.map encF)] = .ok (.list ((facs fs).map .int)) [] := by
  have e := loopF (.list (fs.map encF)) fs [] hf (by simp; omega)
  show noX (resOf [none] none (g__law_factors [some (.val (.list (fs.map encF))), none, none, none, none, none])) = _
  refine fin (ln := [none]) (ρ' := [some (.val (.list (fs.map encF))), some (.val (.list ((facs fs).map .int))), none, none, none, none]) ?_ rfl
  unfold g__law_factors
  rw [sq (ρ1 := [some (.val (.list (fs.map encF))), some (.val (.list [])), none, none, none, none]) (by simp [dSeq, dIf, dIfE, dBin, dBinT, dRet, dRetF, dRetO, dNext, dSet, dSetF, dPar, dAsg, optE, dDrop, toA, dCallB, dCons, dNil, dTup, dLst, dOwn, dVar, dMove, dC, dMt, mPop, mAppend, Rs.bind, Rs.to, opt, get2, Arg.get, getAll, immAll, dTest, dTruth, truD, dNotT, dAndT, dOrT, dAnd, dOr, dNot, gN, gT, gsCons, gsNil, kill, back, startE, noX, resOf, kindsOk, outsOf, dCall, argD, ownIx, setOuts, dItemsA, walkD, itemsD, dEqA_int, dNeA_int, dLt, dLe, dGt, dGe, dAdd, dSub, dMod, dFdiv, gInt, gAbs, gLen, gMin2, gMax2, dIx, dLc, dYes])]
  rw [sq (ρ1 := [some (.val (.list (fs.map encF))), some (.val (.list ((facs fs).map .int))), none, none, none, none]) (by
    rw [forE (ds := fs.map encF) (ρ1 := [some (.val (.list (fs.map encF))), some (.val (.list [])), none, none, none, none]) (by simp [dItemsA, walkD, itemsD, dVar, Rs.bind, opt])]
    exact e)]
  simp [dRet, dVar, Rs.to]
end K47
end

section
set_option Elab.async false
set_option autoImplicit false
set_option linter.all false
set_option maxRecDepth 100000
set_option maxHeartbeats 2000000
namespace K47
open PySem DL
/-! ### words for evaluation -/
theorem tA {f : DL.Env → Rs D} {ρ ρ1 : DL.Env} {d : D} (e : f ρ = .ok d ρ1) : toA f ρ = .ok (.imm d) ρ1 := by simp only [toA, e]
theorem bT {g : D → D → Option D} {f h : DL.Env → Rs D} {ρ ρ1 ρ2 : DL.Env} {d e : D} {b : Bool} (e1 : f ρ = .ok d ρ1) (e2 : h ρ1 = .ok e ρ2) (e3 : g d e = some (.bool b)) : dBinT g (toA f) (toA h) ρ = .ok b ρ2 := by
  simp only [dBinT, tA e1, tA e2, Rs.bind, get2, Arg.get, Option.bind, e3, opt]
theorem bE {g : D → D → Option D} {f h : DL.Env → Rs D} {ρ ρ1 ρ2 : DL.Env} {d e z : D} (e1 : f ρ = .ok d ρ1) (e2 : h ρ1 = .ok e ρ2) (e3 : g d e = some z) : dBin g (toA f) (toA h) ρ = .ok z ρ2 := by
  simp only [dBin, tA e1, tA e2, Rs.bind, get2, Arg.get, Option.bind, e3, opt]
theorem a1 {f : DL.Env → Rs D} {ρ ρ1 : DL.Env} {d : D} (e1 : f ρ = .ok d ρ1) : dCons (toA f) dNil ρ = .ok [.imm d] ρ1 := by
  simp only [dCons, tA e1, Rs.bind, dNil]
theorem a2 {f h : DL.Env → Rs D} {ρ ρ1 ρ2 : DL.Env} {d e : D} (e1 : f ρ = .ok d ρ1) (e2 : h ρ1 = .ok e ρ2) : dCons (toA f) (dCons (toA h) dNil) ρ = .ok [.imm d, .imm e] ρ2 := by
  simp only [dCons, tA e1, tA e2, Rs.bind, dNil]
theorem cB1 {g : List D → Option D} {f : DL.Env → Rs D} {ρ ρ1 : DL.Env} {d z : D} (e1 : f ρ = .ok d ρ1) (e2 : g [d] = some z) : dCallB g (dCons (toA f) dNil) ρ = .ok z ρ1 := by
  simp only [dCallB, a1 e1, Rs.bind, getAll, Arg.get, Option.bind, e2, opt]
theorem nilL (ρ : DL.Env) : dLst dNil ρ = .ok (.list []) ρ := rfl
/-! ### what == [] says -/
theorem shaped_nil : SeqAt.shaped (.list []) = true := by simp [SeqAt.shaped, PyData.canLay0, PyData.canLayAll0, PyData.depth, PyData.depthAll]
theorem dEqA_nil (xs : List D) : dEqA (.list xs) (.list []) = some (.bool xs.isEmpty) := by
  unfold dEqA dEq
  cases xs with
  | nil => simp [shaped_nil, PyData.eqv, PyData.eqvAll]
  | cons x xs =>
    by_cases h : SeqAt.shaped (.list (x :: xs)) = true
    · simp [h, shaped_nil, PyData.eqv, PyData.eqvAll]
    · simp [h]
theorem dNeA_nil (xs : List D) : dNeA (.list xs) (.list []) = some (.bool (!xs.isEmpty)) := by
  unfold dNeA dNe
  cases xs with
  | nil => simp [shaped_nil, PyData.eqv, PyData.eqvAll]
  | cons x xs =>
    by_cases h : SeqAt.shaped (.list (x :: xs)) = true
    · simp [h, shaped_nil, PyData.eqv, PyData.eqvAll]
    · simp [h]
theorem isEmpty_map {α β : Type} (f : α → β) (xs : List α) : (xs.map f).isEmpty = xs.isEmpty := by cases xs <;> rfl
/-! ### the divisor -/
def odd (xs : List Int) (k : Int) : List Int := xs.filter fun x => !decide (x.fdiv k * k = x)
def divs (xs : List Int) : List Int := [1, 2, 3, 4].filter fun k => (odd xs k).isEmpty
def divi (xs : List Int) : Int := if xs = [] then 0 else maxL (divs xs)
theorem inner (f0 : D) (xs : List Int) (k : Int) (h : 1 ≤ k ∧ k ≤ 4) (hl : xs.length ≤ 16777216) : dLc (dItemsA (dVar 1)) (gN 3) (dBinT dNeA (toA (dBin dMul (toA (dBin dFdiv (toA (dVar 3)) (toA (dVar 2)))) (toA (dVar 2)))) (toA (dVar 3))) (dVar 3) [3] [some (.val f0), some (.val (.list (xs.map .int))), some (.val (.int k)), none] = .ok (.list ((odd xs k).map .int)) [some (.val f0), some (.val (.list (xs.map .int))), some (.val (.int k)), none] := by
  have e := lcE (fi := dItemsA (dVar 1)) (g := gN 3) (tt := dBinT dNeA (toA (dBin dMul (toA (dBin dFdiv (toA (dVar 3)) (toA (dVar 2)))) (toA (dVar 2)))) (toA (dVar 3))) (f := dVar 3) (vs := [3]) (ρ := [some (.val f0), some (.val (.list (xs.map .int))), some (.val (.int k)), none]) (ρ0 := [some (.val f0), some (.val (.list (xs.map .int))), some (.val (.int k)), none]) (ds := xs.map .int) (fun d => match d with
      | .int x => !decide (x.fdiv k * k = x)
      | _ => false) id (by simp [dItemsA, walkD, itemsD, dVar, Rs.bind, opt]) (by simpa using hl) rfl fun d hd => by
    obtain ⟨x, hx, rfl⟩ := List.mem_map.mp hd
    refine ⟨[some (.val f0), some (.val (.list (xs.map .int))), some (.val (.int k)), some (.val (.int x))], rfl, ?_, fun _ => rfl, rfl⟩
    have k0 : k ≠ 0 := by omega
    have k1 : divOk k = true := by
      have : k.natAbs < 1073741824 := by omega
      simp [divOk, this]
    have k2 : mulOk (x.fdiv k) k = true := by
      have : k.natAbs < 2 ^ 64 := by
        have : k.natAbs ≤ 4 := by omega
        omega
      simp [mulOk, this]
    simp [dBinT, dBin, toA, dVar, Rs.bind, opt, get2, Arg.get, dFdiv, dMul, dNeA_int, k0, k1, k2]
  rw [e, List.map_id, List.filter_map]
  rfl

theorem outer (f0 : D) (xs : List Int) (hl : xs.length ≤ 16777216) : dLc (dRange2 (dCons (toA (dC (.int 1))) (dCons (toA (dC (.int 5))) (dNil)))) (gN 2) (dBinT dEqA (toA (dLc (dItemsA (dVar 1)) (gN 3) (dBinT dNeA (toA (dBin dMul (toA (dBin dFdiv (toA (dVar 3)) (toA (dVar 2)))) (toA (dVar 2)))) (toA (dVar 3))) (dVar 3) [3])) (toA (dLst (dNil)))) (dVar 2) [2] [some (.val f0), some (.val (.list (xs.map .int))), none, none] = .ok (.list ((divs xs).map .int)) [some (.val f0), some (.val (.list (xs.map .int))), none, none] := by
  have e := lcE (fi := dRange2 (dCons (toA (dC (.int 1))) (dCons (toA (dC (.int 5))) (dNil)))) (g := gN 2) (tt := dBinT dEqA (toA (dLc (dItemsA (dVar 1)) (gN 3) (dBinT dNeA (toA (dBin dMul (toA (dBin dFdiv (toA (dVar 3)) (toA (dVar 2)))) (toA (dVar 2)))) (toA (dVar 3))) (dVar 3) [3])) (toA (dLst (dNil)))) (f := dVar 2) (vs := [2]) (ρ := [some (.val f0), some (.val (.list (xs.map .int))), none, none]) (ρ0 := [some (.val f0), some (.val (.list (xs.map .int))), none, none]) (ds := [1, 2, 3, 4].map .int) (fun d => match d with
      | .int k => (odd xs k).isEmpty
      | _ => false) id rfl (by decide) rfl fun d hd => by
    obtain ⟨k, hk, rfl⟩ := List.mem_map.mp hd
    refine ⟨[some (.val f0), some (.val (.list (xs.map .int))), some (.val (.int k)), none], rfl, ?_, fun _ => rfl, rfl⟩
    have hk2 : 1 ≤ k ∧ k ≤ 4 := by simp at hk; omega
    have i := inner f0 xs k hk2 hl
    refine bT i (nilL _) ?_
    rw [dEqA_nil, isEmpty_map]
  rw [e, List.map_id, List.filter_map]
  rfl
theorem one_mem (xs : List Int) : divs xs = 1 :: (divs xs).tail := by
  have : odd xs 1 = [] := by
    unfold odd
    rw [List.filter_eq_nil_iff]
    intro x _
    simp
  unfold divs
  rw [List.filter_cons_of_pos (by simp [this])]
  rfl
theorem eval_divisor {fs : List Form} (hf : ∀ f ∈ fs, f.2.length ≤ 100) (hl : fs.length ≤ 100) : F__law_divisor [.list (fs.map encF)] = .ok (.int (divi (facs fs))) [] := by
  have ef := eval_factors hf hl
  have hz : (facs fs).length ≤ 16777216 := by
    have : ∀ fs : List Form, (∀ f ∈ fs, f.2.length ≤ 100) → (facs fs).length ≤ 100 * fs.length := by
      intro fs
      induction fs with
      | nil => intro _; simp [facs]
      | cons f fs ih =>
        intro h
        have h1 := h f List.mem_cons_self
        have h2 := ih fun q hq => h q (List.mem_cons_of_mem _ hq)
        have : facs (f :: fs) = (f.2.map fun p => if p.2 < 0 then -p.2 else p.2) ++ facs fs := rfl
        rw [this]
        simp only [List.length_append, List.length_map, List.length_cons]
        omega
    have := this fs hf
    omega
  show noX (resOf [none] none (g__law_divisor F__law_factors [some (.val (.list (fs.map encF))), none, none, none])) = _
  generalize facs fs = xs at ef hz ⊢
  refine fin (ln := [none]) (ρ' := [some (.val (.list (fs.map encF))), some (.val (.list (xs.map .int))), none, none]) ?_ rfl
  unfold g__law_divisor
  rw [sq (ρ1 := [some (.val (.list (fs.map encF))), some (.val (.list (xs.map .int))), none, none]) (by simp [dSeq, dIf, dIfE, dBin, dBinT, dRet, dRetF, dRetO, dNext, dSet, dSetF, dPar, dAsg, optE, dDrop, toA, dCallB, dCons, dNil, dTup, dLst, dOwn, dVar, dMove, dC, dMt, mPop, mAppend, Rs.bind, Rs.to, opt, get2, Arg.get, getAll, immAll, dTest, dTruth, truD, dNotT, dAndT, dOrT, dAnd, dOr, dNot, gN, gT, gsCons, gsNil, kill, back, startE, noX, resOf, kindsOk, outsOf, dCall, argD, ownIx, setOuts, dItemsA, walkD, itemsD, dEqA_int, dNeA_int, dLt, dLe, dGt, dGe, dAdd, dSub, dMod, dFdiv, gInt, gAbs, gLen, gMin2, gMax2, dIx, dLc, dYes, ef])]
  have o := outer (.list (fs.map encF)) xs hz
  have t : dBinT dNeA (toA (dVar 1)) (toA (dLst dNil)) [some (.val (.list (fs.map encF))), some (.val (.list (xs.map .int))), none, none] = .ok (!xs.isEmpty) [some (.val (.list (fs.map encF))), some (.val (.list (xs.map .int))), none, none] := by
    simp [dBinT, dVar, dLst, dNil, toA, Rs.bind, opt, get2, Arg.get, immAll, dNeA_nil, isEmpty_map]
  unfold dRet dIfE
  rw [t]
  cases xs with
  | nil => simp [Rs.bind, Rs.to, dC, divi]
  | cons x xs =>
    simp only [Rs.bind, List.isEmpty_cons, Bool.not_false, if_true, dCallB, dCons, toA, o, dNil, getAll, Arg.get, Option.bind, gMaxL, intsOf_map, divi]
    rw [one_mem (x :: xs)]
    simp [opt, Rs.to]
end K47
end

section
set_option Elab.async false
set_option autoImplicit false
set_option linter.all false
set_option maxRecDepth 100000
set_option maxHeartbeats 2000000
namespace K47
open PySem DL
/-! ### span_of -/
def far (b : Terms) (p : Str × Int) : Int := p.2 * (val b p.1 - 1)
def neg0 (x : Int) : Int := if x < 0 then x else 0
def pos0 (x : Int) : Int := if x > 0 then x else 0
def lo (f : Form) (b : Terms) : Int := f.1 + (f.2.map fun p => neg0 (far b p)).sum
def hi (f : Form) (b : Terms) : Int := f.1 + (f.2.map fun p => pos0 (far b p)).sum
theorem loopS (F : D) (b : Terms) : ∀ (t : Terms) (l h : Int), (∀ p ∈ t, (getO b p.1).isSome = true ∧ -4 ≤ p.2 ∧ p.2 ≤ 4) →
    forL (gT (gsCons (gN 4) (gsCons (gN 5) (gsNil))) 2) b_span_of_0 [4, 5, 6] (encT t) [some (.val F), some (.val (encR b)), some (.val (.int l)), some (.val (.int h)), none, none, none] = .nx [some (.val F), some (.val (encR b)), some (.val (.int (l + (t.map fun p => neg0 (far b p)).sum))), some (.val (.int (h + (t.map fun p => pos0 (far b p)).sum))), none, none, none]
  | [], l, h, _ => by simp [forL, encT]
  | p :: t, l, h, ok => by
    obtain ⟨o1, o2, o3⟩ := ok p List.mem_cons_self
    have b0 : b_span_of_0 [some (.val F), some (.val (encR b)), some (.val (.int l)), some (.val (.int h)), some (.val (.str p.1)), some (.val (.int p.2)), none] = .nx [some (.val F), some (.val (encR b)), some (.val (.int (l + neg0 (far b p)))), some (.val (.int (h + pos0 (far b p)))), some (.val (.str p.1)), some (.val (.int p.2)), some (.val (.int (far b p)))] := by
      have m := mul_ok (b := val b p.1 - 1) ⟨o2, o3⟩
      unfold b_span_of_0
      rw [sq (ρ1 := [some (.val F), some (.val (encR b)), some (.val (.int l)), some (.val (.int h)), some (.val (.str p.1)), some (.val (.int p.2)), some (.val (.int (far b p)))]) (by
        simp [dSet, dBin, dVar, dC, toA, Rs.bind, opt, get2, Arg.get, ix_enc o1, dMul, dSub, Rs.to, m, far])]
      simp [dPar, dBin, dVar, dC, toA, dCons, dNil, Rs.bind, opt, get2, Arg.get, dAdd, dCallB, getAll, gMin2, gMax2, Rs.to, neg0, pos0]
    show forL _ _ _ (.tuple [.str p.1, .int p.2] :: encT t) _ = _
    rw [forC (ρ1 := [some (.val F), some (.val (encR b)), some (.val (.int l)), some (.val (.int h)), some (.val (.str p.1)), some (.val (.int p.2)), none]) rfl b0]
    have ih := loopS F b t (l + neg0 (far b p)) (h + pos0 (far b p)) fun q hq => ok q (List.mem_cons_of_mem _ hq)
    refine Eq.trans ih ?_
    rw [List.map_cons, List.map_cons, List.sum_cons, List.sum_cons, Int.add_assoc, Int.add_assoc]
theorem eval_span {f : Form} {b : Terms} (ok : Ok b f) : F_span_of [encF f, encR b] = .ok (.tuple [.int (lo f b), .int (hi f b)]) [] := by
  show noX (resOf [none, none] none (g_span_of [some (.val (encF f)), some (.val (encR b)), none, none, none, none, none])) = _
  refine fin (ln := [none, none]) (ρ' := [some (.val (encF f)), some (.val (encR b)), some (.val (.int (lo f b))), some (.val (.int (hi f b))), none, none, none]) ?_ rfl
  unfold g_span_of
  rw [sq (ρ1 := [some (.val (encF f)), some (.val (encR b)), some (.val (.int f.1)), some (.val (.int f.1)), none, none, none]) (by
    simp [dPar, dBin, dVar, dC, toA, dCons, dNil, Rs.bind, opt, get2, Arg.get, ix_f0, Rs.to])]
  rw [sq (ρ1 := [some (.val (encF f)), some (.val (encR b)), some (.val (.int (lo f b))), some (.val (.int (hi f b))), none, none, none]) (by
    rw [forE (ds := encT f.2) (ρ1 := [some (.val (encF f)), some (.val (encR b)), some (.val (.int f.1)), some (.val (.int f.1)), none, none, none]) (by simp [dItemsA, walkD, itemsD, dBin, dVar, dC, toA, Rs.bind, opt, get2, Arg.get, ix_f1])]
    exact loopS (encF f) b f.2 f.1 f.1 ok)]
  simp [dRet, dTup, dVar, dCons, dNil, toA, Rs.bind, Rs.to, opt, immAll]
/-! ### never_meet -/
def gcdL (c : Int) (t : Terms) : Int := t.foldl (fun c p => ((Nat.gcd c.natAbs p.2.natAbs : Nat) : Int)) c
def apart (f g : Form) (b : Terms) : Bool :=
  (!decide (f.1 - g.1 = 0) && (decide (gcdL 0 (f.2 ++ g.2) = 0) || !decide ((f.1 - g.1).fmod (gcdL 0 (f.2 ++ g.2)) = 0))) || (decide (hi f b < lo g b) || decide (hi g b < lo f b))
def never (fs gs : List Form) (b : Terms) : Bool := b.any (fun p => p.2 == 0) || (fs.zip gs).any fun p => apart p.1 p.2 b
def en (x0 x1 x2 x3 x4 : D) (c : Option Cell) (a b : Option Cell) : DL.Env := [some (.val x0), some (.val x1), some (.val x2), some (.val x3), some (.val x4), c, a, b, none, none, none, none, none]
theorem loopG (x0 x1 x2 x3 x4 : D) : ∀ (t : Terms) (c : Int), forL (gT (gsCons (gN 6) (gsCons (gN 7) (gsNil))) 2) (b_never_meet_0 F_span_of) [6, 7] (encT t) (en x0 x1 x2 x3 x4 (some (.val (.int c))) none none) = .nx (en x0 x1 x2 x3 x4 (some (.val (.int (gcdL c t)))) none none)
  | [], c => rfl
  | p :: t, c => by
    show forL _ _ _ (.tuple [.str p.1, .int p.2] :: encT t) _ = _
    rw [forC (ρ1 := en x0 x1 x2 x3 x4 (some (.val (.int c))) (some (.val (.str p.1))) (some (.val (.int p.2)))) (ρ2 := en x0 x1 x2 x3 x4 (some (.val (.int ((Nat.gcd c.natAbs p.2.natAbs : Nat) : Int)))) (some (.val (.str p.1))) (some (.val (.int p.2)))) rfl (by
      simp [b_never_meet_0, en, dSet, dCallB, dCons, dNil, dVar, toA, Rs.bind, getAll, Arg.get, gGcd, opt, Rs.to])]
    exact loopG x0 x1 x2 x3 x4 t _
theorem tup2 (x y : D) (ρ : DL.Env) {f h : DL.Env → Rs D} {ρ1 ρ2 : DL.Env} (e1 : f ρ = .ok x ρ1) (e2 : h ρ1 = .ok y ρ2) : dTup (dCons (toA f) (dCons (toA h) dNil)) ρ = .ok (.tuple [x, y]) ρ2 := by
  simp [dTup, a2 e1 e2, Rs.bind, immAll, opt]
theorem stars {f h : DL.Env → Rs D} {ρ ρ1 ρ2 : DL.Env} {xs ys : List D} (e1 : f ρ = .ok (.tuple xs) ρ1) (e2 : h ρ1 = .ok (.tuple ys) ρ2) (hl : (xs ++ ys).length ≤ 16777216) : dTup (dStar (toA f) (dStar (toA h) dNil)) ρ = .ok (.tuple (xs ++ ys)) ρ2 := by
  have : immAll (xs.map Arg.imm ++ (ys.map Arg.imm ++ [])) = some (xs ++ ys) := by
    rw [List.append_nil, ← List.map_append]
    generalize xs ++ ys = zs
    induction zs with
    | nil => rfl
    | cons z zs ih => simp [immAll, ih]
  simp only [dTup, dStar, tA e1, tA e2, Rs.bind, Arg.get, dNil, this, Option.bind, opt, if_pos hl]
theorem call2 {F : List D → Res} {f h : DL.Env → Rs D} {ρ ρ1 ρ2 : DL.Env} {d e z : D} (e1 : f ρ = .ok d ρ1) (e2 : h ρ1 = .ok e ρ2) (e3 : F [d, e] = .ok z []) : dCall [none, none] F (dCons (toA f) (dCons (toA h) dNil)) ρ = .ok z ρ2 := by
  simp [dCall, a2 e1 e2, Rs.bind, argD, e3, ownIx, setOuts]
theorem setE {i : Nat} {f : DL.Env → Rs D} {ρ ρ1 : DL.Env} {d : D} (e : f ρ = .ok d ρ1) : dSet i f ρ = .nx (ρ1.set i (some (.val d))) := by simp [dSet, e, Rs.to]
theorem ifT {t : DL.Env → Rs Bool} {g h : DL.Env → Rt} {ρ ρ1 : DL.Env} (e : t ρ = .ok true ρ1) : dIf t g h ρ = g ρ1 := by simp [dIf, e, Rs.to]
theorem ifF {t : DL.Env → Rs Bool} {g h : DL.Env → Rt} {ρ ρ1 : DL.Env} (e : t ρ = .ok false ρ1) : dIf t g h ρ = h ρ1 := by simp [dIf, e, Rs.to]
theorem andE {t u : DL.Env → Rs Bool} {ρ : DL.Env} {a b : Bool} (e1 : t ρ = .ok a ρ) (e2 : a = true → u ρ = .ok b ρ) : dAndT t u ρ = .ok (a && b) ρ := by
  cases a with
  | false => simp [dAndT, e1, Rs.bind]
  | true => simp [dAndT, e1, Rs.bind, e2 rfl]
theorem orE {t u : DL.Env → Rs Bool} {ρ : DL.Env} {a b : Bool} (e1 : t ρ = .ok a ρ) (e2 : a = false → u ρ = .ok b ρ) : dOrT t u ρ = .ok (a || b) ρ := by
  cases a with
  | true => simp [dOrT, e1, Rs.bind]
  | false => simp [dOrT, e1, Rs.bind, e2 rfl]
theorem zipE {f h : DL.Env → Rs D} {ρ ρ1 ρ2 : DL.Env} {as bs : List D} (e1 : f ρ = .ok (.tuple as) ρ1) (e2 : h ρ1 = .ok (.tuple bs) ρ2) : dZip (dCons (toA f) (dCons (toA h) dNil)) ρ = .ok (zipD as bs) ρ2 := by
  unfold dZip
  rw [a2 e1 e2]
  rfl
theorem asgE {f : DL.Env → Rs D} {g : D → DL.Env → Option DL.Env} {ρ ρ1 ρ2 : DL.Env} {d : D} (e : f ρ = .ok d ρ1) (e2 : g d ρ1 = some ρ2) : dAsg f g ρ = .nx ρ2 := by simp [dAsg, e, Rs.to, e2, optE]
def e8 (x0 x1 x2 x3 x4 : D) (c a : Int) (p q r s : Option Cell) : DL.Env := [some (.val x0), some (.val x1), some (.val x2), some (.val x3), some (.val x4), some (.val (.int c)), none, none, some (.val (.int a)), p, q, r, s]
theorem bodyN (x0 x1 : D) {f g : Form} {b : Terms} (okf : Ok b f) (okg : Ok b g) (lf : f.2.length ≤ 100) (lg : g.2.length ≤ 100) :
    (apart f g b = true ∧ ∃ r, b_never_meet_1 F_span_of (en x0 x1 (encR b) (encF f) (encF g) none none none) = .rt (.bool true) (some (.val x0) :: some (.val x1) :: some (.val (encR b)) :: r)) ∨
    (apart f g b = false ∧ ∃ ρ', b_never_meet_1 F_span_of (en x0 x1 (encR b) (encF f) (encF g) none none none) = .nx ρ' ∧ kill [3, 4, 5, 6, 7, 8, 9, 10, 11, 12] ρ' = [some (.val x0), some (.val x1), some (.val (encR b)), none, none, none, none, none, none, none, none, none, none]) := by
  unfold b_never_meet_1
  rw [sq (ρ1 := en x0 x1 (encR b) (encF f) (encF g) (some (.val (.int 0))) none none) (by exact setE rfl)]
  rw [sq (ρ1 := en x0 x1 (encR b) (encF f) (encF g) (some (.val (.int (gcdL 0 (f.2 ++ g.2))))) none none) (by
    rw [forE (ds := encT (f.2 ++ g.2)) (ρ1 := en x0 x1 (encR b) (encF f) (encF g) (some (.val (.int 0))) none none) (by
      have e : dTup (dStar (toA (dBin dIx (toA (dVar 3)) (toA (dC (.int 1))))) (dStar (toA (dBin dIx (toA (dVar 4)) (toA (dC (.int 1))))) (dNil))) (en x0 x1 (encR b) (encF f) (encF g) (some (.val (.int 0))) none none) = .ok (.tuple (encT f.2 ++ encT g.2)) (en x0 x1 (encR b) (encF f) (encF g) (some (.val (.int 0))) none none) := stars (bE rfl rfl (ix_f1 f)) (bE rfl rfl (ix_f1 g)) (by simp [encT]; omega)
      simp [dItemsA, e, Rs.bind, walkD, itemsD, opt, encT])]
    exact loopG _ _ _ _ _ _ _)]
  rw [sq (ρ1 := e8 x0 x1 (encR b) (encF f) (encF g) (gcdL 0 (f.2 ++ g.2)) (f.1 - g.1) none none none none) (by exact setE (bE (bE rfl rfl (ix_f0 f)) (bE rfl rfl (ix_f0 g)) rfl))]
  generalize hc : gcdL 0 (f.2 ++ g.2) = c
  generalize ha : f.1 - g.1 = a
  have t4 : dAndT (dBinT dNeA (toA (dVar 8)) (toA (dC (.int 0)))) (dOrT (dBinT dEqA (toA (dVar 5)) (toA (dC (.int 0)))) (dBinT dNeA (toA (dBin dMod (toA (dVar 8)) (toA (dVar 5)))) (toA (dC (.int 0))))) (e8 x0 x1 (encR b) (encF f) (encF g) c a none none none none) = .ok (!decide (a = 0) && (decide (c = 0) || !decide (a.fmod c = 0))) (e8 x0 x1 (encR b) (encF f) (encF g) c a none none none none) := by
    refine andE (bT rfl rfl (dNeA_int _ _)) fun _ => orE (bT rfl rfl (dEqA_int _ _)) fun h => bT (bE rfl rfl (z := .int (a.fmod c)) ?_) rfl (dNeA_int _ _)
    have h : c ≠ 0 := by simpa using h
    simp [dMod, h]
  have hap : apart f g b = ((!decide (a = 0) && (decide (c = 0) || !decide (a.fmod c = 0))) || (decide (hi f b < lo g b) || decide (hi g b < lo f b))) := by unfold apart; rw [hc, ha]
  rw [hap]
  cases h4 : (!decide (a = 0) && (decide (c = 0) || !decide (a.fmod c = 0))) with
  | true =>
    rw [h4] at t4
    refine .inl ⟨rfl, [some (.val (encF f)), some (.val (encF g)), some (.val (.int c)), none, none, some (.val (.int a)), none, none, none, none], ?_⟩
    unfold dSeq
    rw [ifT t4]
    rfl
  | false =>
    rw [h4] at t4
    rw [sq (ρ1 := e8 x0 x1 (encR b) (encF f) (encF g) c a none none none none) (by rw [ifF t4]; rfl)]
    rw [sq (ρ1 := e8 x0 x1 (encR b) (encF f) (encF g) c a (some (.val (.int (lo f b)))) (some (.val (.int (hi f b)))) (some (.val (.int (lo g b)))) (some (.val (.int (hi g b))))) (by exact asgE (tup2 (.tuple [.int (lo f b), .int (hi f b)]) (.tuple [.int (lo g b), .int (hi g b)]) _ (call2 rfl rfl (eval_span okf)) (call2 rfl rfl (eval_span okg))) rfl)]
    have t5 : dOrT (dBinT dLt (toA (dVar 10)) (toA (dVar 11))) (dBinT dLt (toA (dVar 12)) (toA (dVar 9))) (e8 x0 x1 (encR b) (encF f) (encF g) c a (some (.val (.int (lo f b)))) (some (.val (.int (hi f b)))) (some (.val (.int (lo g b)))) (some (.val (.int (hi g b))))) = .ok (decide (hi f b < lo g b) || decide (hi g b < lo f b)) (e8 x0 x1 (encR b) (encF f) (encF g) c a (some (.val (.int (lo f b)))) (some (.val (.int (hi f b)))) (some (.val (.int (lo g b)))) (some (.val (.int (hi g b))))) :=
      orE (bT rfl rfl rfl) fun _ => bT rfl rfl rfl
    rw [Bool.false_or]
    cases h5 : (decide (hi f b < lo g b) || decide (hi g b < lo f b)) with
    | true =>
      rw [h5] at t5
      refine .inl ⟨rfl, [some (.val (encF f)), some (.val (encF g)), some (.val (.int c)), none, none, some (.val (.int a)), some (.val (.int (lo f b))), some (.val (.int (hi f b))), some (.val (.int (lo g b))), some (.val (.int (hi g b)))], ?_⟩
      rw [ifT t5]
      rfl
    | false =>
      rw [h5] at t5
      refine .inr ⟨rfl, e8 x0 x1 (encR b) (encF f) (encF g) c a (some (.val (.int (lo f b)))) (some (.val (.int (hi f b)))) (some (.val (.int (lo g b)))) (some (.val (.int (hi g b)))), ?_, rfl⟩
      rw [ifF t5]
      rfl
def eb (x0 x1 : D) (b : Terms) : DL.Env := [some (.val x0), some (.val x1), some (.val (encR b)), none, none, none, none, none, none, none, none, none, none]
theorem loopN (x0 x1 : D) {b : Terms} : ∀ (fs gs : List Form), (∀ f ∈ fs, Ok b f ∧ f.2.length ≤ 100) → (∀ f ∈ gs, Ok b f ∧ f.2.length ≤ 100) →
    (((fs.zip gs).any (fun p => apart p.1 p.2 b) = true ∧ ∃ r, forL (gT (gsCons (gN 3) (gsCons (gN 4) (gsNil))) 2) (b_never_meet_1 F_span_of) [3, 4, 5, 6, 7, 8, 9, 10, 11, 12] (zipD (fs.map encF) (gs.map encF)) (eb x0 x1 b) = .rt (.bool true) (some (.val x0) :: some (.val x1) :: some (.val (encR b)) :: r)) ∨
    ((fs.zip gs).any (fun p => apart p.1 p.2 b) = false ∧ forL (gT (gsCons (gN 3) (gsCons (gN 4) (gsNil))) 2) (b_never_meet_1 F_span_of) [3, 4, 5, 6, 7, 8, 9, 10, 11, 12] (zipD (fs.map encF) (gs.map encF)) (eb x0 x1 b) = .nx (eb x0 x1 b)))
  | [], gs, _, _ => .inr ⟨rfl, by simp [zipD, forL]⟩
  | f :: fs, [], _, _ => .inr ⟨rfl, by simp [zipD, forL]⟩
  | f :: fs, g :: gs, h1, h2 => by
    obtain ⟨o1, l1⟩ := h1 f List.mem_cons_self
    obtain ⟨o2, l2⟩ := h2 g List.mem_cons_self
    have gg : gT (gsCons (gN 3) (gsCons (gN 4) (gsNil))) 2 (.tuple [encF f, encF g]) (eb x0 x1 b) = some (en x0 x1 (encR b) (encF f) (encF g) none none none) := rfl
    have ih := loopN x0 x1 fs gs (fun q hq => h1 q (List.mem_cons_of_mem _ hq)) fun q hq => h2 q (List.mem_cons_of_mem _ hq)
    rw [List.zip_cons_cons, List.any_cons, List.map_cons, List.map_cons, zipD]
    rcases bodyN x0 x1 o1 o2 l1 l2 with ⟨e1, r, e2⟩ | ⟨e1, ρ', e2, e3⟩
    · refine .inl ⟨by simp only [e1, Bool.true_or], r, ?_⟩
      unfold forL
      rw [gg]
      simp only [e2]
    · rw [forC gg e2, e3]
      simp only [e1, Bool.false_or]
      exact ih
theorem anyE (b : Terms) : eqVals 0 (b.map fun p => ((.str p.1, .int p.2) : D × D)) = some (b.map fun p => p.2 == 0) := by
  induction b with
  | nil => rfl
  | cons p b ih => simp [eqVals, ih]
theorem rtK {x0 x1 x2 : D} {r : DL.Env} {g : DL.Env → Rt} {ρ : DL.Env} {d : D} (e : g ρ = .rt d (some (.val x0) :: some (.val x1) :: some (.val x2) :: r)) : noX (resOf [none, none, none] none (g ρ)) = .ok d [] := by
  rw [e]
  rfl
theorem eval_never {fs gs : List Form} {b : Terms} (h1 : ∀ f ∈ fs, Ok b f ∧ f.2.length ≤ 100) (h2 : ∀ f ∈ gs, Ok b f ∧ f.2.length ≤ 100) :
    F_never_meet [.tuple (fs.map encF), .tuple (gs.map encF), encR b] = .ok (.bool (never fs gs b)) [] := by
  show noX (resOf [none, none, none] none (g_never_meet F_span_of (eb (.tuple (fs.map encF)) (.tuple (gs.map encF)) b))) = _
  have t : dTruth (toA (dAnyEq 0 (dVar 2))) (eb (.tuple (fs.map encF)) (.tuple (gs.map encF)) b) = .ok (b.any fun p => p.2 == 0) (eb (.tuple (fs.map encF)) (.tuple (gs.map encF)) b) := by
    have : dAnyEq 0 (dVar 2) (eb (.tuple (fs.map encF)) (.tuple (gs.map encF)) b) = .ok (.bool (b.any fun p => p.2 == 0)) (eb (.tuple (fs.map encF)) (.tuple (gs.map encF)) b) := by
      simp [dAnyEq, dVar, eb, Rs.bind, encR, anyE, List.any_map, Function.comp_def]
    simp [dTruth, toA, this, Rs.bind, Arg.get, opt, truD, dTest]
  unfold never
  cases hb : b.any fun p => p.2 == 0 with
  | true =>
    rw [hb] at t
    refine rtK (x0 := .tuple (fs.map encF)) (x1 := .tuple (gs.map encF)) (x2 := encR b) (r := [none, none, none, none, none, none, none, none, none, none]) ?_
    unfold g_never_meet dSeq
    rw [ifT t]
    rfl
  | false =>
    rw [hb] at t
    have z : dZip (dCons (toA (dVar 0)) (dCons (toA (dVar 1)) (dNil))) (eb (.tuple (fs.map encF)) (.tuple (gs.map encF)) b) = .ok (zipD (fs.map encF) (gs.map encF)) (eb (.tuple (fs.map encF)) (.tuple (gs.map encF)) b) := zipE rfl rfl
    unfold g_never_meet
    rw [sq (ρ1 := eb (.tuple (fs.map encF)) (.tuple (gs.map encF)) b) (by rw [ifF t]; rfl)]
    rcases loopN (.tuple (fs.map encF)) (.tuple (gs.map encF)) fs gs h1 h2 with ⟨e1, r, e2⟩ | ⟨e1, e2⟩
    · rw [e1, Bool.or_true]
      refine rtK (x0 := .tuple (fs.map encF)) (x1 := .tuple (gs.map encF)) (x2 := encR b) (r := r) ?_
      unfold dSeq
      rw [forE z]
      have k : kill [3, 4, 5, 6, 7, 8, 9, 10, 11, 12] (eb (.tuple (fs.map encF)) (.tuple (gs.map encF)) b) = eb (.tuple (fs.map encF)) (.tuple (gs.map encF)) b := rfl
      rw [k, e2]
    · rw [e1, Bool.or_false]
      refine rtK (x0 := .tuple (fs.map encF)) (x1 := .tuple (gs.map encF)) (x2 := encR b) (r := [none, none, none, none, none, none, none, none, none, none]) ?_
      rw [sq (ρ1 := eb (.tuple (fs.map encF)) (.tuple (gs.map encF)) b) (by rw [forE z]; exact e2)]
      rfl
end K47
end

section
set_option Elab.async false
set_option autoImplicit false
set_option linter.all false
set_option maxRecDepth 100000
set_option maxHeartbeats 2000000
namespace K47
open PySem DL
/-! ### _law_every -/
def ec (r : Terms) : List (D × D) := r.map fun p => (.str p.1, .int p.2)
def keys (r : Terms) : List Str := r.map (·.1)
theorem getO_none {r : Terms} {x : Str} (h : x ∉ keys r) : getO r x = none := by
  unfold getO
  rw [List.find?_eq_none.mpr]
  · rfl
  · intro p hp
    simp only [decide_eq_true_eq]
    intro e
    exact h (e ▸ List.mem_map_of_mem hp)
theorem getO_some {r : Terms} {x : Str} (h : x ∈ keys r) : (getO r x).isSome = true := by
  obtain ⟨p, hp, rfl⟩ := List.mem_map.mp h
  unfold getO
  rw [Option.isSome_map, List.find?_isSome]
  exact ⟨p, hp, by simp⟩
theorem kputs_enc : ∀ (r acc : Terms), (keys acc ++ keys r).Nodup → kputs (ec acc) (ec r) = some (ec (acc ++ r))
  | [], acc, _ => by simp [ec, kputs]
  | p :: r, acc, h => by
    have h1 : p.1 ∉ keys acc := fun z => by
      have := (List.nodup_append.mp h).2.2 _ z p.1 (by simp [keys])
      exact this rfl
    have e : kput (ec acc) (.str p.1) (.text p.1) (.int p.2) = ec (acc ++ [p]) := by
      unfold kput
      have : kfind (ec acc) (.text p.1) = none := by
        have := kfind_enc acc p.1
        rw [getO_none h1] at this
        exact this
      rw [this]
      simp [ec]
    show (keyOf (.str p.1)).bind (fun k => kputs (kput (ec acc) (.str p.1) k (.int p.2)) (ec r)) = _
    simp only [keyOf, Option.bind, e]
    rw [kputs_enc r (acc ++ [p]) (by simpa [keys, List.append_assoc] using h), List.append_assoc]
    rfl
theorem pairs_enc (r : Terms) : pairsOf (encT r) = some (ec r) := by
  induction r with
  | nil => rfl
  | cons p r ih =>
    show (pairsOf (encT r)).map _ = _
    rw [ih]
    rfl
theorem dict_enc {r : Terms} (h : (keys r).Nodup) : gDictA [.list (encT r)] = some (encR r) := by
  have pk : (ec r).all (fun p => plainK p.1) = true := by
    rw [List.all_eq_true]
    intro p hp
    obtain ⟨q, _, rfl⟩ := List.mem_map.mp hp
    rfl
  have e := kputs_enc r [] (by simpa [keys] using h)
  have : gDictK [.list (encT r)] = some (encR r) := by
    show (pairsOf (encT r)).bind _ = _
    rw [pairs_enc]
    show (if (ec r).all (fun p => plainK p.1) = true then (kputs [] (ec r)).map PyData.dict else none) = _
    rw [if_pos pk, show kputs [] (ec r) = some (ec ([] ++ r)) from e]
    rfl
  unfold gDictA
  rw [this]
def ext (r : Terms) (x : Str) (n : Nat) : List Terms := (List.range n).map fun (k : Nat) => r ++ [(x, (k : Int))]
def rowsOf (rows : List Terms) (x : Str) (n : Nat) : List Terms := rows.flatMap fun r => ext r x n
theorem plD_enc (r : Terms) : plD (encR r) = some (encT r) := by
  simp [plD, encR, encT, plainK, List.map_map, Function.comp_def]
theorem ext_len (r : Terms) (x : Str) (n : Nat) : (ext r x n).length = n := by simp [ext]
theorem rowsOf_len (rows : List Terms) (x : Str) (n : Nat) : (rowsOf rows x n).length = rows.length * n := by
  induction rows with
  | nil => simp [rowsOf]
  | cons r rows ih =>
    have : rowsOf (r :: rows) x n = ext r x n ++ rowsOf rows x n := rfl
    rw [this, List.length_append, ext_len, ih, List.length_cons, Nat.succ_mul, Nat.add_comm]
def ev (B : D) (F : List Terms) (x : Str) (L : List Terms) (row k : Option Cell) : DL.Env := [some (.val B), some (.val (.list (F.map encR))), some (.val (.str x)), some (.val (.list (L.map encR))), row, k]
theorem lcEv {b : Terms} (F L : List Terms) {x : Str} {r : Terms} {n : Nat} (hx : (getO b x).isSome = true) (hv : val b x = (n : Int)) (hn : n ≤ 100) (hd : (keys r ++ [x]).Nodup) (hl : r.length ≤ 100) :
    dLc (dRange1 (dCons (toA (dBin dIx (toA (dVar 0)) (toA (dVar 2)))) (dNil))) (gN 5) (dYes) (dCallB gDictA (dCons (toA (dBin dAdd (toA (dItemsL (dVar 4))) (toA (dLst (dCons (toA (dTup (dCons (toA (dVar 2)) (dCons (toA (dVar 5)) (dNil))))) (dNil)))))) (dNil))) [5] (ev (encR b) F x L (some (.val (encR r))) none) = .ok (.list ((ext r x n).map encR)) (ev (encR b) F x L (some (.val (encR r))) none) := by
  have hn2 : (n : Int) < 2 ^ 62 := Int.lt_of_le_of_lt (b := 100) (by omega) (by decide)
  have e := lcA (fi := dRange1 (dCons (toA (dBin dIx (toA (dVar 0)) (toA (dVar 2)))) (dNil))) (g := gN 5) (f := dCallB gDictA (dCons (toA (dBin dAdd (toA (dItemsL (dVar 4))) (toA (dLst (dCons (toA (dTup (dCons (toA (dVar 2)) (dCons (toA (dVar 5)) (dNil))))) (dNil)))))) (dNil))) (vs := [5]) (ρ := ev (encR b) F x L (some (.val (encR r))) none) (ρ0 := ev (encR b) F x L (some (.val (encR r))) none) (ds := rangeD 0 n) (fun d => match d with
      | .int k => encR (r ++ [(x, k)])
      | _ => .none) (range1 n hn2 _ _ _ (bE rfl rfl ((ix_enc hx).trans (by rw [hv])))) (by rw [rlen]; omega) rfl fun d hd2 => by
    obtain ⟨k, _, rfl⟩ := List.mem_map.mp hd2
    refine ⟨ev (encR b) F x L (some (.val (encR r))) (some (.val (.int (0 + (k : Int))))), rfl, ?_, rfl⟩
    refine cB1 (d := .list (encT (r ++ [(x, 0 + (k : Int))]))) (bE (ρ1 := ev (encR b) F x L (some (.val (encR r))) (some (.val (.int (0 + (k : Int)))))) (d := .list (encT r)) (e := .list [.tuple [.str x, .int (0 + (k : Int))]]) ?_ rfl ?_) (dict_enc (by simpa [keys] using hd))
    · unfold dItemsL
      show (match plD (encR r) with
        | some ls => _
        | none => _) = _
      rw [plD_enc]
    · show (if _ then _ else _) = _
      rw [if_pos (by simp [encT]; omega)]
      simp [encT]
  rw [e]
  simp [rangeD, ext, List.map_map, Function.comp_def]
theorem loopV {b : Terms} (F : List Terms) {x : Str} {n : Nat} (hx : (getO b x).isSome = true) (hv : val b x = (n : Int)) (hn : n ≤ 100) : ∀ (rows L : List Terms), (∀ r ∈ rows, (keys r ++ [x]).Nodup ∧ r.length ≤ 100) → L.length + rows.length * n ≤ 16777216 →
    forL (gN 4) b__law_every_0 [4] (rows.map encR) (ev (encR b) F x L none none) = .nx (ev (encR b) F x (L ++ rowsOf rows x n) none none)
  | [], L, _, _ => by simp [forL, rowsOf]
  | r :: rows, L, h, hl => by
    obtain ⟨h1, h2⟩ := h r List.mem_cons_self
    rw [List.length_cons, Nat.succ_mul] at hl
    have b0 : b__law_every_0 (ev (encR b) F x L (some (.val (encR r))) none) = .nx (ev (encR b) F x (L ++ ext r x n) (some (.val (encR r))) none) := by
      unfold b__law_every_0
      refine Eq.trans (setE (ρ1 := ev (encR b) F x L (some (.val (encR r))) none) (d := .list ((L ++ ext r x n).map encR)) (bE rfl (lcEv F L hx hv hn h1 h2) ?_)) rfl
      show (if _ then _ else _) = _
      rw [if_pos (by simp only [List.length_map, ext_len]; omega), List.map_append]
    rw [List.map_cons, forC (ρ1 := ev (encR b) F x L (some (.val (encR r))) none) rfl b0]
    have ih := loopV F hx hv hn rows (L ++ ext r x n) (fun q hq => h q (List.mem_cons_of_mem _ hq)) (by rw [List.length_append, ext_len]; omega)
    refine Eq.trans ih ?_
    rw [List.append_assoc]
    rfl
def rowsBy (b : Terms) (ns : List Str) (rows : List Terms) : List Terms := ns.foldl (fun rows x => rowsOf rows x (val b x).toNat) rows
def eo (B : D) (F : List Terms) : DL.Env := [some (.val B), some (.val (.list (F.map encR))), none, none, none, none]
theorem keys_rowsOf {rows : List Terms} {x : Str} {n : Nat} {done : List Str} (h : ∀ r ∈ rows, keys r = done) : ∀ r ∈ rowsOf rows x n, keys r = done ++ [x] := by
  intro r hr
  obtain ⟨q, hq, hr⟩ := List.mem_flatMap.mp hr
  obtain ⟨k, _, rfl⟩ := List.mem_map.mp hr
  rw [← h q hq]
  simp [keys]
theorem loopO {b : Terms} : ∀ (ns : List Str) (rows : List Terms) (done : List Str), (∀ x ∈ ns, (getO b x).isSome = true ∧ 0 ≤ val b x ∧ val b x ≤ 5) → (∀ r ∈ rows, keys r = done) → (done ++ ns).Nodup → (done ++ ns).length ≤ 100 → rows.length * 5 ^ ns.length ≤ 1000 →
    forL (gN 2) b__law_every_1 [2, 3, 4] (ns.map .str) (eo (encR b) rows) = .nx (eo (encR b) (rowsBy b ns rows))
  | [], rows, _, _, _, _, _, _ => rfl
  | x :: ns, rows, done, hb, hk, nd, hl, hs => by
    obtain ⟨o1, o2, o3⟩ := hb x List.mem_cons_self
    have hv : val b x = ((val b x).toNat : Int) := by omega
    have hn : (val b x).toNat ≤ 5 := by omega
    have nd2 : (done ++ [x]).Nodup := by
      rw [List.append_cons] at nd
      exact (List.nodup_append.mp nd).1
    have hm : rows.length * (val b x).toNat ≤ rows.length * 5 := Nat.mul_le_mul_left _ hn
    have p1 : 1 ≤ 5 ^ ns.length := Nat.pow_pos (by decide)
    have hs2 : rows.length * 5 * 5 ^ ns.length ≤ 1000 := by
      rw [List.length_cons, Nat.pow_succ, Nat.mul_comm (5 ^ ns.length) 5, ← Nat.mul_assoc] at hs
      exact hs
    have hs3 : rows.length * 5 ≤ 1000 := Nat.le_trans (Nat.le_mul_of_pos_right _ p1) hs2
    have v := loopV rows o1 hv (by omega) rows [] (fun r hr => by
      rw [hk r hr]
      refine ⟨nd2, ?_⟩
      have : (keys r).length = r.length := by simp [keys]
      rw [hk r hr] at this
      simp only [List.length_append] at hl
      omega) (by simp only [List.length_nil]; omega)
    have b0 : b__law_every_1 [some (.val (encR b)), some (.val (.list (rows.map encR))), some (.val (.str x)), none, none, none] = .nx [some (.val (encR b)), some (.val (.list ((rowsOf rows x (val b x).toNat).map encR))), some (.val (.str x)), some (.val (.list ((rowsOf rows x (val b x).toNat).map encR))), none, none] := by
      unfold b__law_every_1
      rw [sq (ρ1 := ev (encR b) rows x [] none none) (by rfl)]
      rw [sq (ρ1 := ev (encR b) rows x (rowsOf rows x (val b x).toNat) none none) (by
        rw [forE (ds := rows.map encR) (ρ1 := ev (encR b) rows x [] none none) (by rfl)]
        exact v)]
      rfl
    rw [List.map_cons, forC (ρ1 := [some (.val (encR b)), some (.val (.list (rows.map encR))), some (.val (.str x)), none, none, none]) rfl b0]
    exact loopO ns (rowsOf rows x (val b x).toNat) (done ++ [x]) (fun y hy => hb y (List.mem_cons_of_mem _ hy)) (keys_rowsOf hk) (by simpa using nd) (by simpa using hl) (by
      rw [rowsOf_len]
      exact Nat.le_trans (Nat.mul_le_mul_right _ hm) hs2)
theorem strsOf_map : ∀ xs : List Str, strsOf (xs.map PyData.str) = some xs
  | [] => rfl
  | x :: xs => by show (strsOf (xs.map PyData.str)).map _ = _; rw [strsOf_map xs]; rfl
theorem sorted_strs (xs : List Str) (h : xs.length < 64) : gSorted [.list (xs.map .str)] = some (.list ((sortS xs).map .str)) := by
  show (if _ then _ else _) = _
  rw [if_pos (by simpa using h)]
  cases xs with
  | nil => simp [intsOf, sortI, sortS]
  | cons x xs =>
    have : intsOf ((x :: xs).map PyData.str) = none := rfl
    rw [this, strsOf_map]
def every (b : Terms) : List Terms := rowsBy b (sortS (keys b)) [[]]
theorem sort_perm (xs : List Str) : (sortS xs).Perm xs := List.mergeSort_perm _ _
theorem eval_every {b : Terms} (hb : ∀ p ∈ b, 0 ≤ val b p.1 ∧ val b p.1 ≤ 5) (nd : (keys b).Nodup) (hl : b.length ≤ 3) : F__law_every [encR b] = .ok (.list ((every b).map encR)) [] := by
  have kl : (keys b).length = b.length := by simp [keys]
  have sp := sort_perm (keys b)
  have sl : (sortS (keys b)).length = b.length := sp.length_eq.trans kl
  have o := loopO (b := b) (sortS (keys b)) [[]] [] (fun x hx => by
    have hx := sp.mem_iff.mp hx
    refine ⟨getO_some hx, ?_⟩
    obtain ⟨p, hp, rfl⟩ := List.mem_map.mp hx
    exact hb p hp) (fun r hr => by rw [List.mem_singleton.mp hr]; rfl) (sp.nodup_iff.mpr nd) (by rw [List.nil_append, sl]; omega) (by
    rw [sl, List.length_singleton, Nat.one_mul]
    have : 5 ^ b.length ≤ 5 ^ 3 := Nat.pow_le_pow_right (by decide) hl
    omega)
  show noX (resOf [none] none (g__law_every [some (.val (encR b)), none, none, none, none, none])) = _
  refine fin (ln := [none]) (ρ' := eo (encR b) (every b)) ?_ rfl
  unfold g__law_every
  rw [sq (ρ1 := eo (encR b) [[]]) (by rfl)]
  rw [sq (ρ1 := eo (encR b) (every b)) (by
    rw [forE (ds := (sortS (keys b)).map .str) (ρ1 := eo (encR b) [[]]) (by
      have e : dCallB gSorted (dCons (toA (dCallB gListA (dCons (toA (dVar 0)) (dNil)))) (dNil)) (eo (encR b) [[]]) = .ok (.list ((sortS (keys b)).map .str)) (eo (encR b) [[]]) := by
        refine cB1 (cB1 (d := encR b) (z := .list ((keys b).map .str)) rfl ?_) (sorted_strs _ (by omega))
        simp [gListA, encR, keys, List.map_map, Function.comp_def]
      unfold dItemsA
      rw [e]
      rfl)]
    exact o)]
  rfl
end K47
end

section
set_option Elab.async false
set_option autoImplicit false
set_option linter.all false
set_option maxRecDepth 100000
set_option maxHeartbeats 2000000
namespace K47
open PySem DL
/-! ### numbers taken -/
def ow (ds : List Int) : Option Cell := some (.own .lst (.list (ds.map .int)))
theorem take0 (ds : List Int) (b : Int) (hb : 0 < b) (r : DL.Env) : ∃ (v : Int) (ds' : List Int), dCall [some .lst, none] F__law_take (dCons (dOwn 0) (dCons (toA (dC (.int b))) dNil)) (ow ds :: r) = .ok (.int v) (ow ds' :: r) ∧ 0 ≤ v ∧ v < b := by
  obtain ⟨v, ds', e, h1, h2⟩ := take_any ds b hb
  refine ⟨v, ds', ?_, h1, h2⟩
  simp [dCall, dCons, dOwn, dNil, dC, toA, Rs.bind, argD, e, ownIx, setOuts, ow]
theorem take1 (x : Option Cell) (ds : List Int) (b : Int) (hb : 0 < b) (r : DL.Env) : ∃ (v : Int) (ds' : List Int), dCall [some .lst, none] F__law_take (dCons (dOwn 1) (dCons (toA (dC (.int b))) dNil)) (x :: ow ds :: r) = .ok (.int v) (x :: ow ds' :: r) ∧ 0 ≤ v ∧ v < b := by
  obtain ⟨v, ds', e, h1, h2⟩ := take_any ds b hb
  refine ⟨v, ds', ?_, h1, h2⟩
  simp [dCall, dCons, dOwn, dNil, dC, toA, Rs.bind, argD, e, ownIx, setOuts, ow]
/-! ### _law_forms -/
/-- a form over names -/
def Good (ns : List Str) (f : Form) : Prop := (keys f.2).Sublist ns ∧ ∀ p ∈ f.2, -4 ≤ p.2 ∧ p.2 ≤ 4 ∧ p.2 ≠ 0
def fe (N M : D) (ds : List Int) (fs : List Form) (k : Option Cell) (t : Terms) (x y : Option Cell) : DL.Env := [ow ds, some (.val N), some (.val M), some (.own .lst (.list (fs.map encF))), k, some (.own .lst (.list (encT t))), x, y]
theorem andE2 {t u : DL.Env → Rs Bool} {ρ ρ1 : DL.Env} {a b : Bool} (e1 : t ρ = .ok a ρ1) (e2 : a = true → u ρ1 = .ok b ρ1) : dAndT t u ρ = .ok (a && b) ρ1 := by
  cases a with
  | false => simp [dAndT, e1, Rs.bind]
  | true => simp [dAndT, e1, Rs.bind, e2 rfl]
theorem appE {i : Nat} {f : DL.Env → Rs D} {ρ ρ1 : DL.Env} {d : D} {k1 k2 : Kd} {d0 ds : List D} (e0 : ρ[i]? = some (some (.own k1 (.list d0)))) (e : f ρ = .ok d ρ1) (e2 : ρ1[i]? = some (some (.own k2 (.list ds)))) (hl : ds.length < 16777216) : dDrop (dMt i mAppend (dCons (toA f) dNil)) ρ = .nx (ρ1.set i (some (.own .lst (.list (ds ++ [d]))))) := by
  simp [dDrop, dMt, e0, a1 e, Rs.bind, e2, immAll, mAppend, hl, Rs.to]
theorem tupO {i : Nat} {ρ : DL.Env} {k : Kd} {ds : List D} (e : ρ[i]? = some (some (.own k (.list ds)))) : dCallB gTuple (dCons (dOwn i) dNil) ρ = .ok (.tuple ds) ρ := by
  simp [dCallB, dCons, dNil, dOwn, e, Rs.bind, getAll, Arg.get, gTuple, opt]
theorem bodyF0 (N M : D) (ds : List Int) (fs : List Form) (k : Option Cell) (t : Terms) (x : Str) (ht : t.length < 100) : ∃ ds' t' y, b__law_forms_0 F__law_take (fe N M ds fs k t (some (.val (.str x))) none) = .nx (fe N M ds' fs k (t ++ t') (some (.val (.str x))) y) ∧ (t' = [] ∨ ∃ c, t' = [(x, c)] ∧ -4 ≤ c ∧ c ≤ 4 ∧ c ≠ 0) := by
  obtain ⟨v, d1, e1, l1, h1⟩ := take0 ds 9 (by decide) [some (.val N), some (.val M), some (.own .lst (.list (fs.map encF))), k, some (.own .lst (.list (encT t))), some (.val (.str x)), none]
  obtain ⟨w, d2, e2, l2, h2⟩ := take0 d1 2 (by decide) [some (.val N), some (.val M), some (.own .lst (.list (fs.map encF))), k, some (.own .lst (.list (encT t))), some (.val (.str x)), some (.val (.int (v - 4)))]
  have s1 : dSet 7 (dBin dSub (toA (dCall [some .lst, none] F__law_take (dCons (dOwn 0) (dCons (toA (dC (.int 9))) (dNil))))) (toA (dC (.int 4)))) (fe N M ds fs k t (some (.val (.str x))) none) = .nx (fe N M d1 fs k t (some (.val (.str x))) (some (.val (.int (v - 4))))) :=
    Eq.trans (setE (bE e1 rfl rfl)) rfl
  have t2 : dAndT (dBinT dEqA (toA (dCall [some .lst, none] F__law_take (dCons (dOwn 0) (dCons (toA (dC (.int 2))) (dNil))))) (toA (dC (.int 0)))) (dBinT dNeA (toA (dVar 7)) (toA (dC (.int 0)))) (fe N M d1 fs k t (some (.val (.str x))) (some (.val (.int (v - 4))))) = .ok (decide (w = 0) && !decide (v - 4 = 0)) (fe N M d2 fs k t (some (.val (.str x))) (some (.val (.int (v - 4))))) :=
    andE2 (bT e2 rfl (dEqA_int _ _)) fun _ => bT rfl rfl (dNeA_int _ _)
  unfold b__law_forms_0
  rw [sq s1]
  cases hc : decide (w = 0) && !decide (v - 4 = 0) with
  | false =>
    rw [hc] at t2
    refine ⟨d2, [], some (.val (.int (v - 4))), ?_, .inl rfl⟩
    rw [ifF t2, List.append_nil]
    rfl
  | true =>
    rw [hc] at t2
    have hv : v - 4 ≠ 0 := by
      rw [Bool.and_eq_true] at hc
      simpa using hc.2
    refine ⟨d2, [(x, v - 4)], some (.val (.int (v - 4))), ?_, .inr ⟨_, rfl, by omega, by omega, hv⟩⟩
    rw [ifT t2]
    have hl : (encT t).length < 16777216 := by simp [encT]; omega
    refine Eq.trans (appE (f := dTup (dCons (toA (dVar 6)) (dCons (toA (dVar 7)) dNil))) (d := .tuple [.str x, .int (v - 4)]) (d0 := encT t) (ds := encT t) (ρ1 := fe N M d2 fs k t (some (.val (.str x))) (some (.val (.int (v - 4))))) rfl rfl rfl hl) ?_
    simp [fe, encT]
theorem loopF0 (N M : D) (fs : List Form) (k : Option Cell) : ∀ (ns : List Str) (ds : List Int) (t : Terms), t.length + ns.length < 100 → ∃ ds' t', forL (gN 6) (b__law_forms_0 F__law_take) [6, 7] (ns.map .str) (fe N M ds fs k t none none) = .nx (fe N M ds' fs k (t ++ t') none none) ∧ (keys t').Sublist ns ∧ ∀ p ∈ t', -4 ≤ p.2 ∧ p.2 ≤ 4 ∧ p.2 ≠ 0
  | [], ds, t, _ => ⟨ds, [], by rw [List.append_nil]; rfl, .slnil, fun p hp => nomatch hp⟩
  | x :: ns, ds, t, hl => by
    rw [List.length_cons] at hl
    obtain ⟨d1, t1, y, e1, c1⟩ := bodyF0 N M ds fs k t x (by omega)
    have ht1 : t1.length ≤ 1 := by rcases c1 with rfl | ⟨c, rfl, _⟩ <;> simp
    obtain ⟨d2, t2, e2, s2, c2⟩ := loopF0 N M fs k ns d1 (t ++ t1) (by rw [List.length_append]; omega)
    refine ⟨d2, t1 ++ t2, ?_, ?_, ?_⟩
    · rw [List.map_cons, forC (ρ1 := fe N M ds fs k t (some (.val (.str x))) none) rfl e1, ← List.append_assoc]
      exact e2
    · rcases c1 with rfl | ⟨c, rfl, _⟩
      · exact s2.cons x
      · exact s2.cons_cons x
    · intro p hp
      rcases List.mem_append.mp hp with hp | hp
      · rcases c1 with rfl | ⟨c, rfl, h⟩
        · cases hp
        · rw [List.mem_singleton.mp hp]; exact h
      · exact c2 p hp
def ff (ns : List Str) (M : D) (ds : List Int) (fs : List Form) : DL.Env := [ow ds, some (.val (.list (ns.map .str))), some (.val M), some (.own .lst (.list (fs.map encF))), none, none, none, none]
theorem bodyF1 (ns : List Str) (M : D) (ds : List Int) (fs : List Form) (k : D) (hn : ns.length < 100) (hf : fs.length < 100) : ∃ ds' f ρ', b__law_forms_1 F__law_take [ow ds, some (.val (.list (ns.map .str))), some (.val M), some (.own .lst (.list (fs.map encF))), some (.val k), none, none, none] = .nx ρ' ∧ kill [4, 5, 6, 7] ρ' = ff ns M ds' (fs ++ [f]) ∧ Good ns f := by
  obtain ⟨d1, t, e1, s1, c1⟩ := loopF0 (.list (ns.map .str)) M fs (some (.val k)) ns ds [] (by simpa using hn)
  rw [List.nil_append] at e1
  obtain ⟨v, d2, e2, l2, h2⟩ := take0 d1 21 (by decide) [some (.val (.list (ns.map .str))), some (.val M), some (.own .lst (.list (fs.map encF))), some (.val k), some (.own .lst (.list (encT t))), none, none]
  unfold b__law_forms_1
  rw [sq (ρ1 := fe (.list (ns.map .str)) M ds fs (some (.val k)) [] none none) (by rfl)]
  rw [sq (ρ1 := fe (.list (ns.map .str)) M d1 fs (some (.val k)) t none none) (by
    rw [forE (ds := ns.map .str) (ρ1 := fe (.list (ns.map .str)) M ds fs (some (.val k)) [] none none) (by rfl)]
    exact e1)]
  have hl : (fs.map encF).length < 16777216 := by rw [List.length_map]; omega
  refine ⟨d2, (v - 8, t), _, appE (d := encF (v - 8, t)) (d0 := fs.map encF) (ds := fs.map encF) (ρ1 := fe (.list (ns.map .str)) M d2 fs (some (.val k)) t none none) rfl ?_ rfl hl, ?_, s1, c1⟩
  · refine tup2 (.int (v - 8)) (.tuple (encT t)) _ (bE e2 rfl rfl) (tupO (k := .lst) rfl)
  · simp [fe, ff, kill, encF]
theorem loopF1 (ns : List Str) (M : D) (hn : ns.length < 100) : ∀ (ks : List D) (ds : List Int) (fs : List Form), fs.length + ks.length < 100 → ∃ ds' fs', forL (gN 4) (b__law_forms_1 F__law_take) [4, 5, 6, 7] ks (ff ns M ds fs) = .nx (ff ns M ds' (fs ++ fs')) ∧ fs'.length = ks.length ∧ ∀ f ∈ fs', Good ns f
  | [], ds, fs, _ => ⟨ds, [], by rw [List.append_nil]; rfl, rfl, fun p hp => nomatch hp⟩
  | k :: ks, ds, fs, hl => by
    rw [List.length_cons] at hl
    obtain ⟨d1, f, ρ', e1, k1, g1⟩ := bodyF1 ns M ds fs k hn (by omega)
    obtain ⟨d2, fs2, e2, l2, g2⟩ := loopF1 ns M hn ks d1 (fs ++ [f]) (by rw [List.length_append, List.length_singleton]; omega)
    refine ⟨d2, f :: fs2, ?_, by rw [List.length_cons, l2, List.length_cons], fun q hq => ?_⟩
    · rw [forC (ρ1 := [ow ds, some (.val (.list (ns.map .str))), some (.val M), some (.own .lst (.list (fs.map encF))), some (.val k), none, none, none]) rfl e1, k1, e2, List.append_assoc]
      rfl
    · rcases List.mem_cons.mp hq with rfl | hq
      · exact g1
      · exact g2 q hq
theorem eval_forms (ns : List Str) (hn : ns.length < 100) (many : Nat) (hm : many < 100) (ds : List Int) : ∃ (ds' : List Int) (fs : List Form), F__law_forms [.list (ds.map .int), .list (ns.map .str), .int many] = .ok (.tuple (fs.map encF)) [.list (ds'.map .int)] ∧ fs.length = many ∧ ∀ f ∈ fs, Good ns f := by
  obtain ⟨d1, fs, e, l, g⟩ := loopF1 ns (.int many) hn (rangeD 0 many) ds [] (by rw [rlen]; simpa using hm)
  rw [List.nil_append] at e
  rw [rlen] at l
  refine ⟨d1, fs, ?_, l, g⟩
  show noX (resOf [some .lst, none, none] none (g__law_forms F__law_take [ow ds, some (.val (.list (ns.map .str))), some (.val (.int many)), none, none, none, none, none])) = _
  refine fin (ln := [some .lst, none, none]) (ρ' := ff ns (.int many) d1 fs) ?_ rfl
  unfold g__law_forms
  have hm2 : (many : Int) < 2 ^ 62 := Int.lt_of_le_of_lt (b := 100) (by omega) (by decide)
  rw [sq (ρ1 := ff ns (.int many) ds []) (by rfl)]
  rw [sq (ρ1 := ff ns (.int many) d1 fs) (by
    rw [forE (range1 many hm2 _ _ _ (by rfl))]
    exact e)]
  unfold dRet
  rw [tupO (k := .lst) (ds := fs.map encF) rfl]
  rfl
end K47
end

section
set_option Elab.async false
set_option autoImplicit false
set_option linter.all false
set_option maxRecDepth 100000
set_option maxHeartbeats 2000000
namespace K47
open PySem DL
/-! ### the divisor is the gcd -/
theorem gcdL_dvd (d : Nat) : ∀ (t : Terms) (c : Int), d ∣ (gcdL c t).natAbs ↔ d ∣ c.natAbs ∧ ∀ p ∈ t, d ∣ p.2.natAbs
  | [], c => by simp [gcdL]
  | p :: t, c => by
    have ih := gcdL_dvd d t ((Nat.gcd c.natAbs p.2.natAbs : Nat) : Int)
    have : gcdL c (p :: t) = gcdL ((Nat.gcd c.natAbs p.2.natAbs : Nat) : Int) t := rfl
    rw [this, ih, Int.natAbs_natCast, Nat.dvd_gcd_iff]
    constructor
    · rintro ⟨⟨h1, h2⟩, h3⟩
      exact ⟨h1, fun q hq => by
        rcases List.mem_cons.mp hq with rfl | hq
        · exact h2
        · exact h3 q hq⟩
    · rintro ⟨h1, h2⟩
      exact ⟨⟨h1, h2 p List.mem_cons_self⟩, fun q hq => h2 q (List.mem_cons_of_mem _ hq)⟩
theorem gcdL_nonneg : ∀ (t : Terms) (c : Int), 0 ≤ c → 0 ≤ gcdL c t
  | [], c, h => h
  | p :: t, c, _ => gcdL_nonneg t _ (Int.natCast_nonneg _)
theorem gcd_dvd {t : Terms} {p : Str × Int} (h : p ∈ t) : gcdL 0 t ∣ p.2 := by
  have := ((gcdL_dvd (gcdL 0 t).natAbs t 0).mp (Nat.dvd_refl _)).2 p h
  exact Int.natAbs_dvd_natAbs.mp this
theorem dvd_gcd {t : Terms} {d : Int} (h : ∀ p ∈ t, d ∣ p.2) : d ∣ gcdL 0 t := by
  refine Int.natAbs_dvd_natAbs.mp ((gcdL_dvd d.natAbs t 0).mpr ⟨by simp, fun p hp => Int.natAbs_dvd_natAbs.mpr (h p hp)⟩)
theorem gcd_eq {t u : Terms} (h : ∀ p, p ∈ t ↔ p ∈ u) : gcdL 0 t = gcdL 0 u := by
  have e : (gcdL 0 t).natAbs = (gcdL 0 u).natAbs := Nat.dvd_antisymm
    ((gcdL_dvd _ u 0).mpr ⟨by simp, fun p hp => Int.natAbs_dvd_natAbs.mpr (gcd_dvd ((h p).mpr hp))⟩)
    ((gcdL_dvd _ t 0).mpr ⟨by simp, fun p hp => Int.natAbs_dvd_natAbs.mpr (gcd_dvd ((h p).mp hp))⟩)
  have h1 := gcdL_nonneg t 0 (Int.le_refl _)
  have h2 := gcdL_nonneg u 0 (Int.le_refl _)
  omega
theorem fdiv_mul (x k : Int) (hk : k ≠ 0) : x.fdiv k * k = x ↔ k ∣ x := by
  constructor
  · intro h
    exact ⟨x.fdiv k, by rw [Int.mul_comm]; exact h.symm⟩
  · rintro ⟨y, rfl⟩
    rw [Int.mul_comm k y, Int.mul_fdiv_cancel _ hk]
theorem mem_divs {xs : List Int} {k : Int} : k ∈ divs xs ↔ (1 ≤ k ∧ k ≤ 4) ∧ ∀ x ∈ xs, k ∣ x := by
  unfold divs odd
  rw [List.mem_filter, List.isEmpty_iff, List.filter_eq_nil_iff]
  constructor
  · rintro ⟨h1, h2⟩
    have hk : 1 ≤ k ∧ k ≤ 4 := by simp at h1; omega
    refine ⟨hk, fun x hx => (fdiv_mul x k (by omega)).mp ?_⟩
    simpa using h2 x hx
  · rintro ⟨h1, h2⟩
    refine ⟨by simp; omega, fun x hx => ?_⟩
    have := (fdiv_mul x k (by omega)).mpr (h2 x hx)
    simpa using this
theorem mem_facs2 {f g : Form} {x : Int} : x ∈ facs [f, g] ↔ ∃ p ∈ f.2 ++ g.2, x = if p.2 < 0 then -p.2 else p.2 := by
  have e : facs [f, g] = (f.2 ++ g.2).map fun p => if p.2 < 0 then -p.2 else p.2 := by simp [facs]
  rw [e, List.mem_map]
  constructor
  · rintro ⟨p, h, e⟩
    exact ⟨p, h, e.symm⟩
  · rintro ⟨p, h, e⟩
    exact ⟨p, h, e.symm⟩
theorem dvd_abs (k y : Int) : k ∣ (if y < 0 then -y else y) ↔ k ∣ y := by
  split
  · exact Int.dvd_neg
  · exact Iff.rfl
/-- what law computes is what never_meet computes -/
theorem divi_eq {ns ms : List Str} {f g : Form} (hf : Good ns f) (hg : Good ms g) : divi (facs [f, g]) = gcdL 0 (f.2 ++ g.2) := by
  have sm : ∀ p ∈ f.2 ++ g.2, -4 ≤ p.2 ∧ p.2 ≤ 4 ∧ p.2 ≠ 0 := fun p hp => by
    rcases List.mem_append.mp hp with hp | hp
    · exact hf.2 p hp
    · exact hg.2 p hp
  unfold divi
  split
  · rename_i h
    have : f.2 ++ g.2 = [] := by
      rw [List.eq_nil_iff_forall_not_mem]
      intro p hp
      have : (if p.2 < 0 then -p.2 else p.2) ∈ facs [f, g] := mem_facs2.mpr ⟨p, hp, rfl⟩
      rw [h] at this
      cases this
    rw [this]
    rfl
  · rename_i h
    obtain ⟨x, hx⟩ := List.exists_mem_of_ne_nil _ h
    obtain ⟨p, hp, rfl⟩ := mem_facs2.mp hx
    have d1 := gcd_dvd hp
    obtain ⟨s1, s2, s3⟩ := sm p hp
    have n0 := gcdL_nonneg (f.2 ++ g.2) 0 (Int.le_refl _)
    have n1 : gcdL 0 (f.2 ++ g.2) ≠ 0 := fun z => by
      rw [z] at d1
      exact s3 (Int.zero_dvd.mp d1)
    have n4 : gcdL 0 (f.2 ++ g.2) ≤ 4 := by
      have := Int.natAbs_dvd_natAbs.mpr d1
      have := Nat.le_of_dvd (by omega) this
      omega
    refine maxL_is (mem_divs.mpr ⟨⟨by omega, n4⟩, fun y hy => ?_⟩) fun k hk => ?_
    · obtain ⟨q, hq, rfl⟩ := mem_facs2.mp hy
      exact (dvd_abs _ _).mpr (gcd_dvd hq)
    · obtain ⟨hk1, hk2⟩ := mem_divs.mp hk
      have : k ∣ gcdL 0 (f.2 ++ g.2) := dvd_gcd fun q hq => (dvd_abs _ _).mp (hk2 _ (mem_facs2.mpr ⟨q, hq, rfl⟩))
      exact Int.le_of_dvd (by omega) this
/-! ### never_meet does not care for the order -/
theorem fmod0 (a c : Int) : a.fmod c = 0 ↔ c ∣ a := by
  constructor
  · exact Int.dvd_of_fmod_eq_zero
  · exact Int.fmod_eq_zero_of_dvd
theorem apart_symm (f g : Form) (b : Terms) : apart f g b = apart g f b := by
  have hc : gcdL 0 (f.2 ++ g.2) = gcdL 0 (g.2 ++ f.2) := gcd_eq fun p => by
    rw [List.mem_append, List.mem_append, or_comm]
  unfold apart
  rw [hc]
  have h1 : decide (f.1 - g.1 = 0) = decide (g.1 - f.1 = 0) := decide_eq_decide.mpr (by omega)
  have h2 : decide ((f.1 - g.1).fmod (gcdL 0 (g.2 ++ f.2)) = 0) = decide ((g.1 - f.1).fmod (gcdL 0 (g.2 ++ f.2)) = 0) := decide_eq_decide.mpr (by
    rw [fmod0, fmod0, ← Int.dvd_neg, show -(f.1 - g.1) = g.1 - f.1 by omega])
  rw [h1, h2, Bool.or_comm (decide (hi f b < lo g b))]
theorem never_symm (fs gs : List Form) (b : Terms) : never fs gs b = never gs fs b := by
  unfold never
  congr 1
  induction fs generalizing gs with
  | nil => cases gs <;> rfl
  | cons f fs ih =>
    cases gs with
    | nil => rfl
    | cons g gs =>
      rw [List.zip_cons_cons, List.zip_cons_cons, List.any_cons, List.any_cons, ih gs, apart_symm]
end K47
end

section
set_option Elab.async false
set_option autoImplicit false
set_option linter.all false
set_option maxRecDepth 100000
set_option maxHeartbeats 2000000
namespace K47
open PySem DL
/-! ### the rows -/
theorem getO_mem : ∀ {r : Terms} {p : Str × Int}, (keys r).Nodup → p ∈ r → getO r p.1 = some p.2
  | q :: r, p, nd, h => by
    have nd' : q.1 ∉ keys r ∧ (keys r).Nodup := List.nodup_cons.mp nd
    rcases List.mem_cons.mp h with rfl | h
    · simp [getO, List.find?_cons]
    · have ne : q.1 ≠ p.1 := fun e => nd'.1 (e ▸ List.mem_map_of_mem h)
      have ih := getO_mem nd'.2 h
      unfold getO at ih ⊢
      rw [List.find?_cons]
      simp only [ne, decide_false]
      exact ih
theorem val_mem {r : Terms} {p : Str × Int} (nd : (keys r).Nodup) (h : p ∈ r) : val r p.1 = p.2 := by
  unfold val
  rw [getO_mem nd h]
  rfl
theorem getO_map (h : Str → Int) : ∀ (ns : List Str) {x : Str}, x ∈ ns → getO (ns.map fun x => (x, h x)) x = some (h x)
  | y :: ns, x, hx => by
    by_cases e : y = x
    · subst e
      simp [getO, List.find?_cons]
    · have hx' : x ∈ ns := by
        rcases List.mem_cons.mp hx with rfl | z
        · exact absurd rfl e
        · exact z
      have ih := getO_map h ns hx'
      unfold getO at ih ⊢
      rw [List.map_cons, List.find?_cons]
      simp only [e, decide_false]
      exact ih
theorem val_map (h : Str → Int) {ns : List Str} {x : Str} (hx : x ∈ ns) : val (ns.map fun x => (x, h x)) x = h x := by
  unfold val
  rw [getO_map h ns hx]
  rfl
theorem mem_rowsBy (b : Terms) : ∀ (ns : List Str) (rows : List Terms) (r : Terms), r ∈ rowsBy b ns rows ↔ ∃ q ∈ rows, ∃ t : Terms, r = q ++ t ∧ keys t = ns ∧ ∀ p ∈ t, 0 ≤ p.2 ∧ p.2 < val b p.1
  | [], rows, r => by
    constructor
    · intro h
      exact ⟨r, h, [], by simp, rfl, fun p hp => nomatch hp⟩
    · rintro ⟨q, hq, t, rfl, hk, _⟩
      have : t = [] := List.map_eq_nil_iff.mp hk
      rw [this, List.append_nil]
      exact hq
  | x :: ns, rows, r => by
    have ih := mem_rowsBy b ns (rowsOf rows x (val b x).toNat) r
    have e : rowsBy b (x :: ns) rows = rowsBy b ns (rowsOf rows x (val b x).toNat) := rfl
    rw [e, ih]
    constructor
    · rintro ⟨q, hq, t, rfl, hk, hb⟩
      obtain ⟨q0, hq0, hq⟩ := List.mem_flatMap.mp hq
      obtain ⟨k, hk2, rfl⟩ := List.mem_map.mp hq
      have hk3 := List.mem_range.mp hk2
      refine ⟨q0, hq0, (x, (k : Int)) :: t, by simp, by simp [keys] at hk ⊢; exact hk, fun p hp => ?_⟩
      rcases List.mem_cons.mp hp with rfl | hp
      · exact ⟨Int.natCast_nonneg _, by show (k : Int) < val b x; omega⟩
      · exact hb p hp
    · rintro ⟨q, hq, t, rfl, hk, hb⟩
      cases t with
      | nil => cases hk
      | cons p t =>
        have hk' : p.1 = x ∧ keys t = ns := by
          have : p.1 :: keys t = x :: ns := hk
          exact List.cons.inj this
        obtain ⟨h1, h2⟩ := hb p List.mem_cons_self
        refine ⟨q ++ [p], List.mem_flatMap.mpr ⟨q, hq, List.mem_map.mpr ⟨p.2.toNat, List.mem_range.mpr ?_, ?_⟩⟩, t, by simp, hk'.2, fun z hz => hb z (List.mem_cons_of_mem _ hz)⟩
        · rw [← hk'.1]; omega
        · have : ((p.2.toNat : Nat) : Int) = p.2 := by omega
          rw [this, ← hk'.1]
theorem mem_every {b r : Terms} : r ∈ every b ↔ keys r = sortS (keys b) ∧ ∀ p ∈ r, 0 ≤ p.2 ∧ p.2 < val b p.1 := by
  unfold every
  rw [mem_rowsBy]
  constructor
  · rintro ⟨q, hq, t, rfl, hk, hb⟩
    rw [List.mem_singleton.mp hq, List.nil_append]
    exact ⟨hk, hb⟩
  · rintro ⟨hk, hb⟩
    exact ⟨[], List.mem_singleton.mpr rfl, r, rfl, hk, hb⟩
/-- a row that a function gives -/
theorem map_every {b : Terms} (h : Str → Int) (hh : ∀ x ∈ keys b, 0 ≤ h x ∧ h x < val b x) : (sortS (keys b)).map (fun x => (x, h x)) ∈ every b := by
  refine mem_every.mpr ⟨by simp [keys, List.map_map, Function.comp_def], fun p hp => ?_⟩
  obtain ⟨x, hx, rfl⟩ := List.mem_map.mp hp
  exact hh x ((sort_perm _).mem_iff.mp hx)
theorem every_val {b r : Terms} (nd : (keys b).Nodup) (h : r ∈ every b) {x : Str} (hx : x ∈ keys b) : (getO r x).isSome = true ∧ 0 ≤ val r x ∧ val r x < val b x := by
  obtain ⟨hk, hb⟩ := mem_every.mp h
  have hx' : x ∈ keys r := hk ▸ (sort_perm (keys b)).mem_iff.mpr hx
  have ndr : (keys r).Nodup := hk ▸ (sort_perm (keys b)).nodup_iff.mpr nd
  obtain ⟨p, hp, rfl⟩ := List.mem_map.mp hx'
  refine ⟨getO_some hx', ?_⟩
  rw [val_mem ndr hp]
  exact hb p hp
theorem every_nil {b : Terms} (nd : (keys b).Nodup) (h0 : ∀ p ∈ b, 0 ≤ p.2) : every b = [] ↔ b.any (fun p => p.2 == 0) = true := by
  rw [List.any_eq_true]
  constructor
  · intro h
    refine Classical.byContradiction fun hn => ?_
    have : (sortS (keys b)).map (fun x => (x, (0 : Int))) ∈ every b := map_every (fun _ => 0) fun x hx => by
      obtain ⟨p, hp, rfl⟩ := List.mem_map.mp hx
      refine ⟨Int.le_refl _, ?_⟩
      rw [val_mem nd hp]
      have h1 := h0 p hp
      have h2 : p.2 ≠ 0 := fun e => hn ⟨p, hp, by simp [e]⟩
      omega
    rw [h] at this
    cases this
  · rintro ⟨p, hp, h⟩
    have h : p.2 = 0 := by simpa using h
    rw [List.eq_nil_iff_forall_not_mem]
    intro r hr
    obtain ⟨_, h1, h2⟩ := every_val nd hr (List.mem_map_of_mem (f := (·.1)) hp)
    have := val_mem nd hp
    omega
end K47
end

section
set_option Elab.async false
set_option autoImplicit false
set_option linter.all false
set_option maxRecDepth 100000
set_option maxHeartbeats 2000000
namespace K47
open PySem DL
/-! ### the span is what the rows reach -/
theorem sum_le : ∀ (t : Terms) (f g : Str × Int → Int), (∀ p ∈ t, f p ≤ g p) → (t.map f).sum ≤ (t.map g).sum
  | [], _, _, _ => Int.le_refl _
  | p :: t, f, g, h => by
    rw [List.map_cons, List.map_cons, List.sum_cons, List.sum_cons]
    have h1 := h p List.mem_cons_self
    have h2 := sum_le t f g fun q hq => h q (List.mem_cons_of_mem _ hq)
    omega
theorem part (c v m : Int) (h0 : 0 ≤ v) (h1 : v < m) : neg0 (c * (m - 1)) ≤ c * v ∧ c * v ≤ pos0 (c * (m - 1)) := by
  unfold neg0 pos0
  by_cases hc : 0 ≤ c
  · have a : 0 ≤ c * v := Int.mul_nonneg hc h0
    have b : c * v ≤ c * (m - 1) := Int.mul_le_mul_of_nonneg_left (by omega) hc
    split <;> split <;> omega
  · have a : c * v ≤ 0 := Int.mul_nonpos_of_nonpos_of_nonneg (by omega) h0
    have b : c * (m - 1) ≤ c * v := Int.mul_le_mul_of_nonpos_left (by omega) (by omega)
    split <;> split <;> omega
theorem Good.key {ns : List Str} {f : Form} (h : Good ns f) {p : Str × Int} (hp : p ∈ f.2) : p.1 ∈ ns := h.1.subset (List.mem_map_of_mem hp)
theorem at_span {b r : Terms} {f : Form} (nd : (keys b).Nodup) (hf : Good (keys b) f) (hr : r ∈ every b) : lo f b ≤ atF f r ∧ atF f r ≤ hi f b := by
  have h := fun p (hp : p ∈ f.2) => part p.2 (val r p.1) (val b p.1) (every_val nd hr (hf.key hp)).2.1 (every_val nd hr (hf.key hp)).2.2
  unfold lo hi atF far
  exact ⟨Int.add_le_add_left (sum_le _ _ _ fun p hp => (h p hp).1) _, Int.add_le_add_left (sum_le _ _ _ fun p hp => (h p hp).2) _⟩
theorem reach {b : Terms} {f : Form} (nd : (keys b).Nodup) (hf : Good (keys b) f) (hb : ∀ x ∈ keys b, 0 < val b x) : (∃ r ∈ every b, atF f r = lo f b) ∧ ∃ r ∈ every b, atF f r = hi f b := by
  have nf : (keys f.2).Nodup := List.Nodup.sublist hf.1 nd
  have hs : ∀ x ∈ keys b, x ∈ sortS (keys b) := fun x hx => (sort_perm _).mem_iff.mpr hx
  constructor
  · refine ⟨_, map_every (fun x => if val f.2 x < 0 then val b x - 1 else 0) fun x hx => ?_, ?_⟩
    · have := hb x hx
      show 0 ≤ (if val f.2 x < 0 then val b x - 1 else 0) ∧ (if val f.2 x < 0 then val b x - 1 else 0) < val b x
      split <;> omega
    · unfold atF lo
      congr 2
      refine List.map_congr_left fun p hp => ?_
      rw [val_map _ (hs _ (hf.key hp)), val_mem nf hp]
      have h1 := hb p.1 (hf.key hp)
      unfold far neg0
      by_cases hc : p.2 < 0
      · have : p.2 * (val b p.1 - 1) ≤ 0 := Int.mul_nonpos_of_nonpos_of_nonneg (by omega) (by omega)
        rw [if_pos hc]
        split <;> omega
      · have : 0 ≤ p.2 * (val b p.1 - 1) := Int.mul_nonneg (by omega) (by omega)
        rw [if_neg hc, Int.mul_zero]
        split <;> omega
  · refine ⟨_, map_every (fun x => if val f.2 x < 0 then 0 else val b x - 1) fun x hx => ?_, ?_⟩
    · have := hb x hx
      show 0 ≤ (if val f.2 x < 0 then 0 else val b x - 1) ∧ (if val f.2 x < 0 then 0 else val b x - 1) < val b x
      split <;> omega
    · unfold atF hi
      congr 2
      refine List.map_congr_left fun p hp => ?_
      rw [val_map _ (hs _ (hf.key hp)), val_mem nf hp]
      have h1 := hb p.1 (hf.key hp)
      unfold far pos0
      by_cases hc : p.2 < 0
      · have : p.2 * (val b p.1 - 1) ≤ 0 := Int.mul_nonpos_of_nonpos_of_nonneg (by omega) (by omega)
        rw [if_pos hc, Int.mul_zero]
        split <;> omega
      · have : 0 ≤ p.2 * (val b p.1 - 1) := Int.mul_nonneg (by omega) (by omega)
        rw [if_neg hc]
        split <;> omega
theorem max_rows {b : Terms} {f : Form} (nd : (keys b).Nodup) (hf : Good (keys b) f) (hb : ∀ x ∈ keys b, 0 < val b x) : maxL ((every b).map (atF f)) = hi f b := by
  obtain ⟨_, r, hr, e⟩ := reach nd hf hb
  refine maxL_is (List.mem_map.mpr ⟨r, hr, e⟩) fun y hy => ?_
  obtain ⟨q, hq, rfl⟩ := List.mem_map.mp hy
  exact (at_span nd hf hq).2
theorem min_rows {b : Terms} {f : Form} (nd : (keys b).Nodup) (hf : Good (keys b) f) (hb : ∀ x ∈ keys b, 0 < val b x) : minL ((every b).map (atF f)) = lo f b := by
  obtain ⟨⟨r, hr, e⟩, _⟩ := reach nd hf hb
  refine minL_is (List.mem_map.mpr ⟨r, hr, e⟩) fun y hy => ?_
  obtain ⟨q, hq, rfl⟩ := List.mem_map.mp hy
  exact (at_span nd hf hq).1
/-! ### who never meets does not meet -/
theorem dvd_sum {d : Int} : ∀ (t : Terms) (h : Str × Int → Int), (∀ p ∈ t, d ∣ p.2) → d ∣ (t.map fun p => p.2 * h p).sum
  | [], _, _ => Int.dvd_zero d
  | p :: t, h, hd => by
    rw [List.map_cons, List.sum_cons]
    exact Int.dvd_add (Int.dvd_mul_of_dvd_left (hd p List.mem_cons_self)) (dvd_sum t h fun q hq => hd q (List.mem_cons_of_mem _ hq))
theorem apart_ne {b r s : Terms} {f g : Form} (nd : (keys b).Nodup) (hf : Good (keys b) f) (hg : Good (keys b) g) (hr : r ∈ every b) (hs : s ∈ every b) (h : apart f g b = true) : atF f r ≠ atF g s := by
  intro e
  have h1 := at_span nd hf hr
  have h2 := at_span nd hg hs
  have dd : gcdL 0 (f.2 ++ g.2) ∣ f.1 - g.1 := by
    have d1 : gcdL 0 (f.2 ++ g.2) ∣ (f.2.map fun p => p.2 * val r p.1).sum := dvd_sum f.2 (fun p => val r p.1) fun p hp => gcd_dvd (List.mem_append_left _ hp)
    have d2 : gcdL 0 (f.2 ++ g.2) ∣ (g.2.map fun p => p.2 * val s p.1).sum := dvd_sum g.2 (fun p => val s p.1) fun p hp => gcd_dvd (List.mem_append_right _ hp)
    have : f.1 - g.1 = (g.2.map fun p => p.2 * val s p.1).sum - (f.2.map fun p => p.2 * val r p.1).sum := by
      unfold atF at e
      omega
    rw [this]
    exact Int.dvd_sub d2 d1
  unfold apart at h
  rw [Bool.or_eq_true, Bool.and_eq_true, Bool.or_eq_true, Bool.or_eq_true] at h
  simp only [decide_eq_true_eq, Bool.not_eq_true', decide_eq_false_iff_not] at h
  rcases h with ⟨ha, hc | hc⟩ | hc | hc
  · rw [hc] at dd
    exact ha (Int.zero_dvd.mp dd)
  · exact hc ((fmod0 _ _).mpr dd)
  · omega
  · omega
theorem never_rows {b r s : Terms} {fs gs : List Form} (nd : (keys b).Nodup) (h0 : ∀ p ∈ b, 0 ≤ p.2) (hf : ∀ f ∈ fs, Good (keys b) f) (hg : ∀ f ∈ gs, Good (keys b) f) (hr : r ∈ every b) (hs : s ∈ every b) (hl : fs.length = gs.length) (h : never fs gs b = true) : fs.map (fun f => atF f r) ≠ gs.map fun f => atF f s := by
  unfold never at h
  rw [Bool.or_eq_true] at h
  rcases h with h | h
  · rw [(every_nil nd h0).mpr h] at hr
    cases hr
  · intro e
    induction fs generalizing gs with
    | nil => simp at h
    | cons f fs ih =>
      cases gs with
      | nil => simp at h
      | cons g gs =>
        rw [List.map_cons, List.map_cons] at e
        obtain ⟨e1, e2⟩ := List.cons.inj e
        rw [List.zip_cons_cons, List.any_cons, Bool.or_eq_true] at h
        rcases h with h | h
        · exact apart_ne nd (hf f List.mem_cons_self) (hg g List.mem_cons_self) hr hs h e1
        · exact ih (fun q hq => hf q (List.mem_cons_of_mem _ hq)) (fun q hq => hg q (List.mem_cons_of_mem _ hq)) (by simpa using hl) h e2
end K47
end

section
set_option Elab.async false
set_option autoImplicit false
set_option linter.all false
set_option maxRecDepth 100000
set_option maxHeartbeats 2000000
namespace K47
open PySem DL
/-! ### dicts whose keys are rows -/
def encK (t : List Int) : D := .tuple (t.map .int)
def keyK (t : List Int) : NestedKey := .tup (t.map .num)
theorem keys_ints (t : List Int) : keysOf (t.map PyData.int) = some (t.map NestedKey.num) := by
  induction t with
  | nil => rfl
  | cons x t ih =>
    show (keyOf (.int x)).bind (fun k => (keysOf (t.map PyData.int)).map fun ks => k :: ks) = _
    rw [ih]
    rfl
theorem key_encK (t : List Int) : keyOf (encK t) = some (keyK t) := by
  show (keysOf (t.map PyData.int)).map NestedKey.tup = _
  rw [keys_ints]
  rfl
theorem keyK_inj {t u : List Int} (h : keyK t = keyK u) : t = u := by
  unfold keyK at h
  injection h with h
  have g : ∀ (t u : List Int), t.map NestedKey.num = u.map NestedKey.num → t = u := by
    intro t
    induction t with
    | nil =>
      intro u e
      cases u with
      | nil => rfl
      | cons y u => cases e
    | cons x t ih =>
      intro u e
      cases u with
      | nil => cases e
      | cons y u =>
        obtain ⟨e1, e2⟩ := List.cons.inj e
        injection e1 with e1
        rw [e1, ih u e2]
  exact g t u h
def kv (ks : List (List Int)) : List (D × D) := ks.map fun t => (encK t, .int 1)
theorem kfind_kv (ks : List (List Int)) (t : List Int) : (kfind (kv ks) (keyK t)).isSome = decide (t ∈ ks) := by
  induction ks with
  | nil => rfl
  | cons u ks ih =>
    by_cases e : u = t
    · subst e
      have : kfind (kv (u :: ks)) (keyK u) = some (.int 1) := kfind_pos (by rw [key_encK])
      rw [this]
      simp
    · have : kfind (kv (u :: ks)) (keyK t) = kfind (kv ks) (keyK t) := kfind_neg (by rw [key_encK]; exact fun z => e (keyK_inj (Option.some.inj z)))
      rw [this, ih]
      simp [Ne.symm e]
theorem kputs_kv : ∀ (ts acc : List (List Int)), ∃ ks, kputs (kv acc) (kv ts) = some (kv ks) ∧ ks.length ≤ acc.length + ts.length ∧ ∀ t, t ∈ ks ↔ t ∈ acc ∨ t ∈ ts
  | [], acc => ⟨acc, rfl, by simp, fun t => by simp⟩
  | u :: ts, acc => by
    have e : kputs (kv acc) (kv (u :: ts)) = kputs (kput (kv acc) (encK u) (keyK u) (.int 1)) (kv ts) := by
      show (keyOf (encK u)).bind _ = _
      rw [key_encK]
      rfl
    rw [e]
    unfold kput
    rw [kfind_kv]
    by_cases h : u ∈ acc
    · rw [if_pos (by simp [h])]
      have : (kv acc).map (fun p => if keyOf p.1 = some (keyK u) then (p.1, PyData.int 1) else p) = kv acc := by
        unfold kv
        rw [List.map_map]
        refine List.map_congr_left fun t _ => ?_
        simp
      rw [this]
      obtain ⟨ks, e1, el, e2⟩ := kputs_kv ts acc
      refine ⟨ks, e1, by rw [List.length_cons]; omega, fun t => ?_⟩
      rw [e2, List.mem_cons]
      constructor
      · rintro (z | z)
        · exact .inl z
        · exact .inr (.inr z)
      · rintro (z | rfl | z)
        · exact .inl z
        · exact .inl h
        · exact .inr z
    · rw [if_neg (by simp [h])]
      obtain ⟨ks, e1, el, e2⟩ := kputs_kv ts (acc ++ [u])
      refine ⟨ks, by rw [← e1]; simp [kv], by rw [List.length_append, List.length_singleton] at el; rw [List.length_cons]; omega, fun t => ?_⟩
      rw [e2, List.mem_append, List.mem_singleton, List.mem_cons, or_assoc]
theorem pairs_kv (ts : List (List Int)) : pairsOf (ts.map fun t => .tuple [encK t, .int 1]) = some (kv ts) := by
  induction ts with
  | nil => rfl
  | cons t ts ih =>
    show (pairsOf (ts.map fun t => .tuple [encK t, .int 1])).map _ = _
    rw [ih]
    rfl
theorem depth_kv (t : List Int) : (keyK t).depth ≤ 8 := by
  have h : ∀ t : List Int, NestedKey.depthAll (t.map .num) ≤ 1 := by
    intro t
    induction t with
    | nil => simp [NestedKey.depthAll]
    | cons x t ih =>
      simp only [List.map_cons, NestedKey.depthAll, NestedKey.depth]
      omega
  have := h t
  unfold keyK
  simp only [NestedKey.depth]
  omega
theorem dict_kv (ts : List (List Int)) : ∃ ks, gDictA [.list (ts.map fun t => .tuple [encK t, .int 1])] = some (.dict (kv ks)) ∧ ks.length ≤ ts.length ∧ ∀ t, t ∈ ks ↔ t ∈ ts := by
  obtain ⟨ks, e1, el, e2⟩ := kputs_kv ts []
  refine ⟨ks, ?_, by simpa using el, fun t => by rw [e2]; simp⟩
  have e1 : kputs [] (kv ts) = some (kv ks) := e1
  have gN : gDictN [.list (ts.map fun t => .tuple [encK t, .int 1])] = some (.dict (kv ks)) := by
    show (pairsOf _).bind _ = _
    rw [pairs_kv]
    show (if (kv ts).all (fun p => deep8 p.1) = true then (kputs [] (kv ts)).map PyData.dict else none) = _
    rw [if_pos, e1]
    · rfl
    · rw [List.all_eq_true]
      intro p hp
      obtain ⟨t, _, rfl⟩ := List.mem_map.mp hp
      have k := key_encK t
      unfold encK at k
      simp [encK, deep8, k, depth_kv]
  unfold gDictA
  cases ts with
  | nil =>
    have : ks = [] := by
      rw [List.eq_nil_iff_forall_not_mem]
      intro t ht
      have := (e2 t).mp ht
      simp at this
    rw [this]
    rfl
  | cons t ts =>
    have : gDictK [.list ((t :: ts).map fun t => .tuple [encK t, .int 1])] = none := by
      show (pairsOf _).bind _ = _
      rw [pairs_kv]
      rfl
    rw [this]
    exact gN
theorem in_kv (ks : List (List Int)) (t : List Int) : dIn (encK t) (.dict (kv ks)) = some (.bool (decide (t ∈ ks))) := by
  have k := key_encK t
  unfold encK at k ⊢
  have ha : (kv ks).all (fun p => tupK p.1) = true := by
    rw [List.all_eq_true]
    intro p hp
    obtain ⟨t, _, rfl⟩ := List.mem_map.mp hp
    rfl
  show Option.map PyData.bool (Option.map (fun x : Option D => x.isSome) ((keyOf (.tuple (t.map PyData.int))).bind fun k => if k.depth ≤ 8 ∧ (kv ks).all (fun p => tupK p.1) = true then some (kfind (kv ks) k) else none)) = _
  rw [k]
  show Option.map PyData.bool (Option.map (fun x : Option D => x.isSome) (if _ then _ else _)) = _
  rw [if_pos ⟨depth_kv t, ha⟩]
  simp [kfind_kv]
end K47
end

section
set_option Elab.async false
set_option autoImplicit false
set_option linter.all false
set_option maxRecDepth 100000
set_option maxHeartbeats 2000000
namespace K47
open PySem DL
/-! ### one turn of law -/
abbrev cv (d : D) : Option Cell := some (.val d)
theorem orB {f h : DL.Env → Rs D} {ρ : DL.Env} {a b : Bool} (e1 : f ρ = .ok (.bool a) ρ) (e2 : a = false → h ρ = .ok (.bool b) ρ) : dOr f h ρ = .ok (.bool (a || b)) ρ := by
  cases a with
  | true => simp [dOr, e1, Rs.bind]
  | false => simp [dOr, e1, Rs.bind, e2 rfl]
theorem andB {f h : DL.Env → Rs D} {ρ : DL.Env} {a b : Bool} (e1 : f ρ = .ok (.bool a) ρ) (e2 : a = true → h ρ = .ok (.bool b) ρ) : dAnd f h ρ = .ok (.bool (a && b)) ρ := by
  cases a with
  | false => simp [dAnd, e1, Rs.bind]
  | true => simp [dAnd, e1, Rs.bind, e2 rfl]
theorem lst2 {f h : DL.Env → Rs D} {ρ ρ1 ρ2 : DL.Env} {x y : D} (e1 : f ρ = .ok x ρ1) (e2 : h ρ1 = .ok y ρ2) : dLst (dCons (toA f) (dCons (toA h) dNil)) ρ = .ok (.list [x, y]) ρ2 := by
  simp [dLst, a2 e1 e2, Rs.bind, immAll, opt]
theorem call1 {F : List D → Res} {f : DL.Env → Rs D} {ρ ρ1 : DL.Env} {d z : D} (e1 : f ρ = .ok d ρ1) (e3 : F [d] = .ok z []) : dCall [none] F (dCons (toA f) dNil) ρ = .ok z ρ1 := by
  simp [dCall, a1 e1, Rs.bind, argD, e3, ownIx, setOuts]
theorem call3 {F : List D → Res} {f h k : DL.Env → Rs D} {ρ ρ1 ρ2 ρ3 : DL.Env} {x y w z : D} (e1 : f ρ = .ok x ρ1) (e2 : h ρ1 = .ok y ρ2) (e3 : k ρ2 = .ok w ρ3) (e4 : F [x, y, w] = .ok z []) : dCall [none, none, none] F (dCons (toA f) (dCons (toA h) (dCons (toA k) dNil))) ρ = .ok z ρ3 := by
  simp [dCall, dCons, tA e1, tA e2, tA e3, dNil, Rs.bind, argD, e4, ownIx, setOuts]
theorem parE {i j : Nat} {f h : DL.Env → Rs D} {ρ ρ1 ρ2 : DL.Env} {x y : D} (e1 : f ρ = .ok x ρ1) (e2 : h ρ1 = .ok y ρ2) : dPar i j (dCons (toA f) (dCons (toA h) dNil)) ρ = .nx ((ρ2.set i (cv x)).set j (cv y)) := by
  simp [dPar, a2 e1 e2, Rs.to]
theorem ix_map (fs : List Form) (k : Nat) (f : Form) (h : fs[k]? = some f) : dIx (.tuple (fs.map encF)) (.int k) = some (encF f) := by
  show L2.atI (fs.map encF) (k : Int) = _
  exact L2.atI_nat (by rw [List.getElem?_map, h]; rfl)
def lw (S : D) (ds : List Int) (T : D) (x3 x4 x5 x6 x7 x8 x9 x10 x11 x12 x13 x14 x15 x16 x17 x18 : Option Cell) : DL.Env := [cv S, ow ds, cv T, x3, x4, x5, x6, x7, x8, x9, x10, x11, x12, x13, x14, x15, x16, x17, x18, none, none]
abbrev eFs (fs : List Form) : D := .tuple (fs.map encF)
abbrev eRs (rs : List Terms) : D := .list (rs.map encR)
theorem lcAt {S : D} {ds : List Int} {T : D} {x3 x4 x5 x6 x7 x8 x10 x11 x12 x13 x14 x15 x16 x17 x18 : Option Cell} {b : Terms} {rs : List Terms} {ex : DL.Env → Rs D} {f : Form}
    (he : ∀ r, ex (lw S ds T x3 x4 x5 x6 x7 x8 (cv (eRs rs)) x10 x11 x12 x13 x14 x15 x16 x17 x18 |>.set 20 (cv (encR r))) = .ok (encF f) (lw S ds T x3 x4 x5 x6 x7 x8 (cv (eRs rs)) x10 x11 x12 x13 x14 x15 x16 x17 x18 |>.set 20 (cv (encR r))))
    (ok : ∀ r ∈ rs, Ok r f) (hf : f.2.length ≤ 100) (hl : rs.length ≤ 16777216) :
    dLc (dItemsA (dVar 9)) (gN 20) (dYes) (dCall [none, none] F__law_at (dCons (toA ex) (dCons (toA (dVar 20)) (dNil)))) [20] (lw S ds T x3 x4 x5 x6 x7 x8 (cv (eRs rs)) x10 x11 x12 x13 x14 x15 x16 x17 x18) = .ok (.list ((rs.map (atF f)).map .int)) (lw S ds T x3 x4 x5 x6 x7 x8 (cv (eRs rs)) x10 x11 x12 x13 x14 x15 x16 x17 x18) := by
  have e := lcA (fi := dItemsA (dVar 9)) (g := gN 20) (f := dCall [none, none] F__law_at (dCons (toA ex) (dCons (toA (dVar 20)) (dNil)))) (vs := [20]) (ρ := lw S ds T x3 x4 x5 x6 x7 x8 (cv (eRs rs)) x10 x11 x12 x13 x14 x15 x16 x17 x18) (ρ0 := lw S ds T x3 x4 x5 x6 x7 x8 (cv (eRs rs)) x10 x11 x12 x13 x14 x15 x16 x17 x18) (ds := rs.map encR) (fun d => match F__law_at [encF f, d] with
      | .ok z _ => z
      | _ => .none) rfl (by simpa using hl) rfl fun d hd => by
    obtain ⟨r, hr, rfl⟩ := List.mem_map.mp hd
    refine ⟨_, rfl, ?_, rfl⟩
    have ea := eval_at (ok r hr) hf
    rw [ea]
    exact call2 (he r) rfl ea
  rw [e, List.map_map, List.map_map]
  congr 2
  refine List.map_congr_left fun r hr => ?_
  show (match F__law_at [encF f, encR r] with
    | .ok z _ => z
    | _ => .none) = _
  rw [eval_at (ok r hr) hf]
  rfl
end K47
end

section
set_option Elab.async false
set_option autoImplicit false
set_option linter.all false
set_option maxRecDepth 100000
set_option maxHeartbeats 2000000
namespace K47
open PySem DL
/-! ### the check of one place -/
abbrev b0_ := b_law_0 F__law_draws F__law_take F__law_forms F_never_meet F__law_every F__law_row F__law_divisor F__law_at
abbrev b1_ := b_law_1 F__law_draws F__law_take F__law_forms F_never_meet F__law_every F__law_row F__law_divisor F__law_at
theorem good_len {b : Terms} {f : Form} (hl : b.length ≤ 3) (h : Good (keys b) f) : f.2.length ≤ 100 := by
  have h1 := h.1.length_le
  have h2 : (keys f.2).length = f.2.length := by simp [keys]
  have h3 : (keys b).length = b.length := by simp [keys]
  omega
theorem good_ok {b r : Terms} {f : Form} (nd : (keys b).Nodup) (h : Good (keys b) f) (hr : r ∈ every b) : Ok r f := fun p hp =>
  ⟨(every_val nd hr (h.key hp)).1, (h.2 p hp).1, (h.2 p hp).2.1⟩
theorem good_okb {b : Terms} {f : Form} (h : Good (keys b) f) : Ok b f := fun p hp => ⟨getO_some (h.key hp), (h.2 p hp).1, (h.2 p hp).2.1⟩
theorem gcd_le4 {ns ms : List Str} {f g : Form} (hf : Good ns f) (hg : Good ms g) : 0 ≤ gcdL 0 (f.2 ++ g.2) ∧ gcdL 0 (f.2 ++ g.2) ≤ 4 := by
  have n0 := gcdL_nonneg (f.2 ++ g.2) 0 (Int.le_refl _)
  refine ⟨n0, ?_⟩
  cases h : f.2 ++ g.2 with
  | nil => exact (by decide)
  | cons p t =>
    have hp : p ∈ f.2 ++ g.2 := h ▸ List.mem_cons_self
    rw [← h]
    have sm : -4 ≤ p.2 ∧ p.2 ≤ 4 ∧ p.2 ≠ 0 := by
      rcases List.mem_append.mp hp with hp | hp
      · exact hf.2 p hp
      · exact hg.2 p hp
    have := Nat.le_of_dvd (by omega) (Int.natAbs_dvd_natAbs.mpr (gcd_dvd hp))
    omega
theorem maxE {xs : List Int} (h : xs ≠ []) : gMaxL [.list (xs.map .int)] = some (.int (maxL xs)) := by
  simp [gMaxL, intsOf_map, h]
theorem minE {xs : List Int} (h : xs ≠ []) : gMinL [.list (xs.map .int)] = some (.int (minL xs)) := by
  simp [gMinL, intsOf_map, h]
section
variable (S : D) (ds : List Int) (T x3 x5 x10 x11 x12 : D) (b : Terms) (fs gs : List Form) (told : D)
def lk (due : Bool) (k c a p q : Option Cell) : DL.Env := lw S ds T (cv x3) (cv (encR b)) (cv x5) (cv (eFs fs)) (cv (eFs gs)) (cv told) (cv (eRs (every b))) (cv x10) (cv x11) (cv x12) (cv (.bool due)) k c a p q
theorem bodyK (nd : (keys b).Nodup) (h0 : ∀ p ∈ b, 0 ≤ p.2) (hl : b.length ≤ 3) (hz : (every b).length ≤ 1000) (due : Bool) (k : Nat) {f g : Form} (ef : fs[k]? = some f) (eg : gs[k]? = some g) (hf : Good (keys b) f) (hg : Good (keys b) g) (hd : every b = [] → due = true) :
    ∃ c a p q, b0_ (lk S ds T x3 x5 x10 x11 x12 b fs gs told due (cv (.int (k : Nat))) none none none none) = .nx (lk S ds T x3 x5 x10 x11 x12 b fs gs told (due || apart f g b) (cv (.int (k : Nat))) c a p q) := by
  have ff := good_len hl hf
  have fg := good_len hl hg
  have i6 : ∀ (du : Bool) (c a p q : Option Cell), dBin dIx (toA (dVar 6)) (toA (dVar 14)) (lk S ds T x3 x5 x10 x11 x12 b fs gs told du (cv (.int (k : Nat))) c a p q) = .ok (encF f) (lk S ds T x3 x5 x10 x11 x12 b fs gs told du (cv (.int (k : Nat))) c a p q) := fun _ _ _ _ _ => bE rfl rfl (ix_map fs k f ef)
  have i7 : ∀ (du : Bool) (c a p q : Option Cell), dBin dIx (toA (dVar 7)) (toA (dVar 14)) (lk S ds T x3 x5 x10 x11 x12 b fs gs told du (cv (.int (k : Nat))) c a p q) = .ok (encF g) (lk S ds T x3 x5 x10 x11 x12 b fs gs told du (cv (.int (k : Nat))) c a p q) := fun _ _ _ _ _ => bE rfl rfl (ix_map gs k g eg)
  have dv : F__law_divisor [.list [encF f, encF g]] = .ok (.int (gcdL 0 (f.2 ++ g.2))) [] := by
    rw [← divi_eq hf hg]
    exact eval_divisor (fs := [f, g]) (fun q hq => by
      rcases List.mem_cons.mp hq with rfl | hq
      · exact ff
      · rw [List.mem_singleton.mp hq]; exact fg) (by simp)
  obtain ⟨c0, c4⟩ := gcd_le4 hf hg
  unfold b0_ b_law_0
  rw [sq (ρ1 := lk S ds T x3 x5 x10 x11 x12 b fs gs told due (cv (.int (k : Nat))) (cv (.int (gcdL 0 (f.2 ++ g.2)))) (cv (.int (f.1 - g.1))) none none) (by
    exact Eq.trans (parE (call1 (lst2 (i6 _ _ _ _ _) (i7 _ _ _ _ _)) dv) (bE (bE (i6 _ _ _ _ _) rfl (ix_f0 f)) (bE (i7 _ _ _ _ _) rfl (ix_f0 g)) rfl)) rfl)]
  have ap : apart f g b = ((!decide (f.1 - g.1 = 0) && (decide (gcdL 0 (f.2 ++ g.2) = 0) || !decide ((f.1 - g.1).fmod (gcdL 0 (f.2 ++ g.2)) = 0))) || (decide (hi f b < lo g b) || decide (hi g b < lo f b))) := rfl
  rw [ap]
  generalize gcdL 0 (f.2 ++ g.2) = c at c0 c4
  generalize f.1 - g.1 = a
  have step : dSet 13 (dOr (dVar 13) (dOr (dAnd (dBin dEqA (toA (dVar 15)) (toA (dC (.int 0)))) (dBin dNeA (toA (dVar 16)) (toA (dC (.int 0))))) (dAnd (dBin dGt (toA (dVar 15)) (toA (dC (.int 0)))) (dBin dNeA (toA (dBin dMul (toA (dBin dFdiv (toA (dVar 16)) (toA (dVar 15)))) (toA (dVar 15)))) (toA (dVar 16)))))) (lk S ds T x3 x5 x10 x11 x12 b fs gs told due (cv (.int (k : Nat))) (cv (.int c)) (cv (.int a)) none none) = .nx (lk S ds T x3 x5 x10 x11 x12 b fs gs told (due || (!decide (a = 0) && (decide (c = 0) || !decide (a.fmod c = 0)))) (cv (.int (k : Nat))) (cv (.int c)) (cv (.int a)) none none) := by
    refine Eq.trans (setE (d := .bool (due || ((decide (c = 0) && !decide (a = 0)) || (decide (0 < c) && !decide (a.fdiv c * c = a))))) (orB rfl fun _ => orB (andB (bE rfl rfl (dEqA_int _ _)) fun _ => bE rfl rfl (dNeA_int _ _)) fun _ => andB (bE rfl rfl rfl) fun hc => bE (bE (z := .int (a.fdiv c * c)) (bE (z := .int (a.fdiv c)) rfl rfl ?_) rfl ?_) rfl (dNeA_int _ _))) ?_
    · have hc : 0 < c := by simpa using hc
      have h1 : c ≠ 0 := by omega
      have h2 : divOk c = true := by
        have : c.natAbs < 1073741824 := by omega
        simp [divOk, this]
      simp [dFdiv, h1, h2]
    · have h2 : mulOk (a.fdiv c) c = true := by
        have : c.natAbs < 2 ^ 64 := by
          have : c.natAbs ≤ 4 := by omega
          omega
        simp [mulOk, this]
      simp [dMul, h2]
    · have : ((decide (c = 0) && !decide (a = 0)) || (decide (0 < c) && !decide (a.fdiv c * c = a))) = (!decide (a = 0) && (decide (c = 0) || !decide (a.fmod c = 0))) := by
        by_cases hc : c = 0
        · subst hc
          simp
        · have hp : 0 < c := by omega
          have e1 : decide (a.fdiv c * c = a) = decide (a.fmod c = 0) := decide_eq_decide.mpr ((fdiv_mul a c hc).trans (fmod0 a c).symm)
          rw [e1]
          by_cases ha : a = 0
          · subst ha
            simp [hc]
          · simp [hc, hp, ha]
      rw [this]
      rfl
  rw [sq step]
  generalize (!decide (a = 0) && (decide (c = 0) || !decide (a.fmod c = 0))) = w
  have t : dBinT dNeA (toA (dVar 9)) (toA (dLst (dNil))) (lk S ds T x3 x5 x10 x11 x12 b fs gs told (due || w) (cv (.int (k : Nat))) (cv (.int c)) (cv (.int a)) none none) = .ok (!(every b).isEmpty) (lk S ds T x3 x5 x10 x11 x12 b fs gs told (due || w) (cv (.int (k : Nat))) (cv (.int c)) (cv (.int a)) none none) :=
    bT rfl rfl (by rw [dNeA_nil, isEmpty_map])
  by_cases he : every b = []
  · rw [he] at t
    refine ⟨cv (.int c), cv (.int a), none, none, ?_⟩
    rw [ifF t, hd he]
    simp [dNext]
  · have hn : (every b).isEmpty = false := by
      cases h : every b with
      | nil => exact absurd h he
      | cons _ _ => rfl
    rw [hn] at t
    rw [ifT t]
    have hb : ∀ x ∈ keys b, 0 < val b x := fun x hx => by
      obtain ⟨p, hp, rfl⟩ := List.mem_map.mp hx
      rw [val_mem nd hp]
      have h1 := h0 p hp
      have h2 : p.2 ≠ 0 := fun e => he ((every_nil nd h0).mpr (List.any_eq_true.mpr ⟨p, hp, by simp [e]⟩))
      omega
    have nf : (every b).map (atF f) ≠ [] := fun e => he (List.map_eq_nil_iff.mp e)
    have ng : (every b).map (atF g) ≠ [] := fun e => he (List.map_eq_nil_iff.mp e)
    have l1 := lcAt (S := S) (ds := ds) (T := T) (x3 := cv x3) (x4 := cv (encR b)) (x5 := cv x5) (x6 := cv (eFs fs)) (x7 := cv (eFs gs)) (x8 := cv told) (x10 := cv x10) (x11 := cv x11) (x12 := cv x12) (x13 := cv (.bool (due || w))) (x14 := cv (.int (k : Nat))) (x15 := cv (.int c)) (x16 := cv (.int a)) (x17 := none) (x18 := none) (b := b) (rs := every b) (ex := dBin dIx (toA (dVar 6)) (toA (dVar 14))) (f := f) (fun r => bE rfl rfl (ix_map fs k f ef)) (fun r hr => good_ok nd hf hr) ff (by omega)
    have l2 := lcAt (S := S) (ds := ds) (T := T) (x3 := cv x3) (x4 := cv (encR b)) (x5 := cv x5) (x6 := cv (eFs fs)) (x7 := cv (eFs gs)) (x8 := cv told) (x10 := cv x10) (x11 := cv x11) (x12 := cv x12) (x13 := cv (.bool (due || w))) (x14 := cv (.int (k : Nat))) (x15 := cv (.int c)) (x16 := cv (.int a)) (x17 := none) (x18 := none) (b := b) (rs := every b) (ex := dBin dIx (toA (dVar 7)) (toA (dVar 14))) (f := g) (fun r => bE rfl rfl (ix_map gs k g eg)) (fun r hr => good_ok nd hg hr) fg (by omega)
    refine ⟨cv (.int c), cv (.int a), cv (.list (((every b).map (atF f)).map .int)), cv (.list (((every b).map (atF g)).map .int)), ?_⟩
    rw [sq (ρ1 := lk S ds T x3 x5 x10 x11 x12 b fs gs told (due || w) (cv (.int (k : Nat))) (cv (.int c)) (cv (.int a)) (cv (.list (((every b).map (atF f)).map .int))) (cv (.list (((every b).map (atF g)).map .int)))) (by exact Eq.trans (parE l1 l2) rfl)]
    refine Eq.trans (setE (d := .bool ((due || w) || (decide (hi f b < lo g b) || decide (hi g b < lo f b)))) (orB rfl fun _ => orB (bE (cB1 rfl (maxE nf)) (cB1 rfl (minE ng)) ?_) fun _ => bE (cB1 rfl (maxE ng)) (cB1 rfl (minE nf)) ?_)) ?_
    · rw [max_rows nd hf hb, min_rows nd hg hb]
      rfl
    · rw [max_rows nd hg hb, min_rows nd hf hb]
      rfl
    · rw [Bool.or_assoc]
      rfl
end
end K47
end

section
set_option Elab.async false
set_option autoImplicit false
set_option linter.all false
set_option maxRecDepth 100000
set_option maxHeartbeats 2000000
namespace K47
open PySem DL
/-! ### all places -/
section
variable (S : D) (ds : List Int) (T x3 x5 x10 x11 x12 : D) (b : Terms) (fs gs : List Form) (told : D)
theorem loopK (nd : (keys b).Nodup) (h0 : ∀ p ∈ b, 0 ≤ p.2) (hl : b.length ≤ 3) (hz : (every b).length ≤ 1000) (hf : ∀ f ∈ fs, Good (keys b) f) (hg : ∀ f ∈ gs, Good (keys b) f) (hlen : gs.length = fs.length) : ∀ (m j : Nat) (due : Bool), j + m = fs.length → (every b = [] → due = true) →
    forL (gN 14) b0_ [14, 15, 16, 17, 18] ((List.range' j m).map fun (i : Nat) => .int (i : Int)) (lk S ds T x3 x5 x10 x11 x12 b fs gs told due none none none none none) = .nx (lk S ds T x3 x5 x10 x11 x12 b fs gs told (due || ((fs.drop j).zip (gs.drop j)).any fun p => apart p.1 p.2 b) none none none none none)
  | 0, j, due, hj, _ => by
    have e1 : fs.drop j = [] := List.drop_eq_nil_of_le (by omega)
    rw [e1]
    simp [forL]
  | m + 1, j, due, hj, hd => by
    have j1 : j < fs.length := by omega
    have j2 : j < gs.length := by omega
    obtain ⟨c, a, p, q, e⟩ := bodyK S ds T x3 x5 x10 x11 x12 b fs gs told nd h0 hl hz due j (List.getElem?_eq_getElem j1) (List.getElem?_eq_getElem j2) (hf _ (List.getElem_mem j1)) (hg _ (List.getElem_mem j2)) hd
    rw [List.range'_succ, List.map_cons, forC (ρ1 := lk S ds T x3 x5 x10 x11 x12 b fs gs told due (cv (.int (j : Nat))) none none none none) rfl e]
    have ih := loopK nd h0 hl hz hf hg hlen m (j + 1) (due || apart fs[j] gs[j] b) (by omega) fun h => by rw [hd h]; rfl
    refine Eq.trans ih ?_
    rw [List.drop_eq_getElem_cons j1, List.drop_eq_getElem_cons j2, List.zip_cons_cons, List.any_cons, Bool.or_assoc]
theorem range_cast (n : Nat) : rangeD 0 n = (List.range' 0 n).map fun (i : Nat) => .int (i : Int) := by
  rw [rangeD, List.range_eq_range']
  refine List.map_congr_left fun i _ => ?_
  rw [Int.zero_add]
end
/-! ### the rows as keys -/
theorem lcRow {S : D} {ds : List Int} {T : D} {x3 x4 x5 x6 x7 x8 x10 x11 x12 x13 x14 x15 x16 x17 x18 : Option Cell} {rs : List Terms} {fs : List Form} {ex : DL.Env → Rs D}
    (he : ∀ r, ex (lw S ds T x3 x4 x5 x6 x7 x8 (cv (eRs rs)) x10 x11 x12 x13 x14 x15 x16 x17 x18 |>.set 20 (cv (encR r))) = .ok (eFs fs) (lw S ds T x3 x4 x5 x6 x7 x8 (cv (eRs rs)) x10 x11 x12 x13 x14 x15 x16 x17 x18 |>.set 20 (cv (encR r))))
    (ok : ∀ r ∈ rs, ∀ f ∈ fs, Ok r f ∧ f.2.length ≤ 100) (hf : fs.length ≤ 100) (hl : rs.length ≤ 16777216) :
    ∃ ks, dCallB gDictA (dCons (toA (dLc (dItemsA (dVar 9)) (gN 20) (dYes) (dTup (dCons (toA (dCall [none, none] F__law_row (dCons (toA ex) (dCons (toA (dVar 20)) (dNil))))) (dCons (toA (dC (.int 1))) (dNil)))) [20])) (dNil)) (lw S ds T x3 x4 x5 x6 x7 x8 (cv (eRs rs)) x10 x11 x12 x13 x14 x15 x16 x17 x18) = .ok (.dict (kv ks)) (lw S ds T x3 x4 x5 x6 x7 x8 (cv (eRs rs)) x10 x11 x12 x13 x14 x15 x16 x17 x18) ∧ ks.length ≤ rs.length ∧ ∀ t, t ∈ ks ↔ t ∈ rs.map fun r => fs.map fun f => atF f r := by
  have e := lcA (fi := dItemsA (dVar 9)) (g := gN 20) (f := dTup (dCons (toA (dCall [none, none] F__law_row (dCons (toA ex) (dCons (toA (dVar 20)) (dNil))))) (dCons (toA (dC (.int 1))) (dNil)))) (vs := [20]) (ρ := lw S ds T x3 x4 x5 x6 x7 x8 (cv (eRs rs)) x10 x11 x12 x13 x14 x15 x16 x17 x18) (ρ0 := lw S ds T x3 x4 x5 x6 x7 x8 (cv (eRs rs)) x10 x11 x12 x13 x14 x15 x16 x17 x18) (ds := rs.map encR) (fun d => match F__law_row [eFs fs, d] with
      | .ok z _ => .tuple [z, .int 1]
      | _ => .none) rfl (by simpa using hl) rfl fun d hd => by
    obtain ⟨r, hr, rfl⟩ := List.mem_map.mp hd
    refine ⟨_, rfl, ?_, rfl⟩
    have ea := eval_row (ok r hr) hf
    rw [ea]
    exact tup2 _ _ _ (call2 (he r) rfl ea) rfl
  obtain ⟨ks, d1, dl, d2⟩ := dict_kv (rs.map fun r => fs.map fun f => atF f r)
  refine ⟨ks, cB1 e ?_, by simpa using dl, d2⟩
  rw [← d1]
  congr 3
  rw [List.map_map, List.map_map]
  refine List.map_congr_left fun r hr => ?_
  show (match F__law_row [eFs fs, encR r] with
    | .ok z _ => PyData.tuple [z, .int 1]
    | _ => PyData.none) = _
  rw [eval_row (ok r hr) hf]
  simp [encK, List.map_map, Function.comp_def]
/-! ### what meets -/
def inB (ls : List (List Int)) (d : D) : Bool := match dIn d (.dict (kv ls)) with
  | some (.bool b) => b
  | _ => false
theorem inB_k (ls : List (List Int)) (t : List Int) : inB ls (encK t) = decide (t ∈ ls) := by
  unfold inB
  rw [in_kv]
theorem lcMeet {S : D} {ds : List Int} {T : D} {x3 x4 x5 x6 x7 x8 x9 x12 x13 x14 x15 x16 x17 x18 : Option Cell} (ks ls : List (List Int)) (hl : ks.length ≤ 16777216) :
    dBin dNeA (toA (dLc (dItemsA (dVar 10)) (gN 20) (dBinT dIn (toA (dVar 20)) (toA (dVar 11))) (dVar 20) [20])) (toA (dLst (dNil))) (lw S ds T x3 x4 x5 x6 x7 x8 x9 (cv (.dict (kv ks))) (cv (.dict (kv ls))) x12 x13 x14 x15 x16 x17 x18) = .ok (.bool (ks.any fun t => decide (t ∈ ls))) (lw S ds T x3 x4 x5 x6 x7 x8 x9 (cv (.dict (kv ks))) (cv (.dict (kv ls))) x12 x13 x14 x15 x16 x17 x18) := by
  have e := lcE (fi := dItemsA (dVar 10)) (g := gN 20) (tt := dBinT dIn (toA (dVar 20)) (toA (dVar 11))) (f := dVar 20) (vs := [20]) (ρ := lw S ds T x3 x4 x5 x6 x7 x8 x9 (cv (.dict (kv ks))) (cv (.dict (kv ls))) x12 x13 x14 x15 x16 x17 x18) (ρ0 := lw S ds T x3 x4 x5 x6 x7 x8 x9 (cv (.dict (kv ks))) (cv (.dict (kv ls))) x12 x13 x14 x15 x16 x17 x18) (ds := ks.map encK) (inB ls) id (by
      simp [dItemsA, walkD, dVar, lw, Rs.bind, opt, kv, List.map_map, Function.comp_def]) (by simpa using hl) rfl fun d hd => by
    obtain ⟨t, ht, rfl⟩ := List.mem_map.mp hd
    refine ⟨_, rfl, ?_, fun _ => rfl, rfl⟩
    refine bT rfl rfl ?_
    rw [in_kv, inB_k]
  rw [List.map_id] at e
  refine bE e (nilL _) ?_
  rw [dNeA_nil]
  congr 2
  rw [List.filter_map, isEmpty_map]
  have : (inB ls) ∘ encK = fun t => decide (t ∈ ls) := by
    funext t
    exact inB_k ls t
  rw [this]
  clear e
  induction ks with
  | nil => rfl
  | cons t ks ih =>
    by_cases h : t ∈ ls
    · simp [List.filter_cons, h]
    · simp only [List.filter_cons, h, decide_false, Bool.false_eq_true, if_false, List.any_cons, Bool.false_or]
      exact ih (by simp at hl; omega)
end K47
end

section
set_option Elab.async false
set_option autoImplicit false
set_option linter.all false
set_option maxRecDepth 100000
set_option maxHeartbeats 2000000
namespace K47
open PySem DL
/-! ### the draws of one turn -/
def nms (n : Nat) : List Str := [("i" : Str), "j", "k"].take n
theorem nms_len (n : Nat) (h : n ≤ 3) : (nms n).length = n := by
  unfold nms
  rw [List.length_take]
  show min n 3 = n
  omega
theorem nms_nodup (n : Nat) : (nms n).Nodup := List.Nodup.sublist (List.take_sublist _ _) (by decide)
theorem takeW (S : D) (ds : List Int) (k : Int) (hk : 0 < k) (T : D) (x3 x4 x5 x6 x7 x8 x9 x10 x11 x12 x13 x14 x15 x16 x17 x18 : Option Cell) : ∃ (v : Int) (ds' : List Int), dBin dAdd (toA (dC (.int 1))) (toA (dCall [some .lst, none] F__law_take (dCons (dOwn 1) (dCons (toA (dC (.int k))) (dNil))))) (lw S ds T x3 x4 x5 x6 x7 x8 x9 x10 x11 x12 x13 x14 x15 x16 x17 x18) = .ok (.int (1 + v)) (lw S ds' T x3 x4 x5 x6 x7 x8 x9 x10 x11 x12 x13 x14 x15 x16 x17 x18) ∧ 0 ≤ v ∧ v < k := by
  obtain ⟨v, ds', e, h1, h2⟩ := take1 (cv S) ds k hk [cv T, x3, x4, x5, x6, x7, x8, x9, x10, x11, x12, x13, x14, x15, x16, x17, x18, none, none]
  exact ⟨v, ds', bE rfl e rfl, h1, h2⟩
theorem names1 (S : D) (ds : List Int) (T : D) (x3 x4 x5 x6 x7 x8 x9 x10 x11 x12 x13 x14 x15 x16 x17 x18 : Option Cell) : ∃ (n : Nat) (ds' : List Int), dSet 3 (dSlL (toA (dLst (dCons (toA (dC (.str "i"))) (dCons (toA (dC (.str "j"))) (dCons (toA (dC (.str "k"))) (dNil)))))) (dNoP) (dPart (dBin dAdd (toA (dC (.int 1))) (toA (dCall [some .lst, none] F__law_take (dCons (dOwn 1) (dCons (toA (dC (.int 3))) (dNil)))))))) (lw S ds T x3 x4 x5 x6 x7 x8 x9 x10 x11 x12 x13 x14 x15 x16 x17 x18) = .nx (lw S ds' T (cv (.list ((nms n).map .str))) x4 x5 x6 x7 x8 x9 x10 x11 x12 x13 x14 x15 x16 x17 x18) ∧ n ≤ 3 := by
  obtain ⟨v, ds', e, h1, h2⟩ := takeW S ds 3 (by decide) T x3 x4 x5 x6 x7 x8 x9 x10 x11 x12 x13 x14 x15 x16 x17 x18
  refine ⟨(1 + v).toNat, ds', ?_, by omega⟩
  refine Eq.trans (setE (d := .list ((nms (1 + v).toNat).map .str)) (ρ1 := lw S ds' T x3 x4 x5 x6 x7 x8 x9 x10 x11 x12 x13 x14 x15 x16 x17 x18) ?_) rfl
  have l : toA (dLst (dCons (toA (dC (.str "i"))) (dCons (toA (dC (.str "j"))) (dCons (toA (dC (.str "k"))) (dNil))))) (lw S ds T x3 x4 x5 x6 x7 x8 x9 x10 x11 x12 x13 x14 x15 x16 x17 x18) = .ok (.imm (.list [.str "i", .str "j", .str "k"])) (lw S ds T x3 x4 x5 x6 x7 x8 x9 x10 x11 x12 x13 x14 x15 x16 x17 x18) := by
    simp [toA, dLst, dCons, dC, dNil, Rs.bind, immAll, opt]
  have p : dPart (dBin dAdd (toA (dC (.int 1))) (toA (dCall [some .lst, none] F__law_take (dCons (dOwn 1) (dCons (toA (dC (.int 3))) (dNil)))))) (lw S ds T x3 x4 x5 x6 x7 x8 x9 x10 x11 x12 x13 x14 x15 x16 x17 x18) = .ok (some (1 + v)) (lw S ds' T x3 x4 x5 x6 x7 x8 x9 x10 x11 x12 x13 x14 x15 x16 x17 x18) := by
    unfold dPart
    rw [e]
    rfl
  unfold dSlL
  rw [l]
  simp only [Rs.bind, dNoP, p, Arg.get]
  have : v = 0 ∨ v = 1 ∨ v = 2 := by omega
  rcases this with rfl | rfl | rfl <;> rfl
theorem lcB (S T : D) (x3 x4 x5 x6 x7 x8 x9 x10 x11 x12 x13 x14 x15 x16 x17 x18 : Option Cell) : ∀ (ns : List Str) (acc : Terms) (ds : List Int), ∃ (ds' : List Int) (b : Terms), lcL (gN 19) (dYes) (dTup (dCons (toA (dVar 19)) (dCons (toA (dCall [some .lst, none] F__law_take (dCons (dOwn 1) (dCons (toA (dC (.int 6))) (dNil))))) (dNil)))) [19] (ns.map .str) (encT acc) (lw S ds T x3 x4 x5 x6 x7 x8 x9 x10 x11 x12 x13 x14 x15 x16 x17 x18) = some (encT (acc ++ b), lw S ds' T x3 x4 x5 x6 x7 x8 x9 x10 x11 x12 x13 x14 x15 x16 x17 x18) ∧ keys b = ns ∧ ∀ p ∈ b, 0 ≤ p.2 ∧ p.2 ≤ 5
  | [], acc, ds => ⟨ds, [], by simp [lcL], rfl, fun p hp => nomatch hp⟩
  | x :: ns, acc, ds => by
    obtain ⟨v, d1, e, h1, h2⟩ := take1 (cv S) ds 6 (by decide) [cv T, x3, x4, x5, x6, x7, x8, x9, x10, x11, x12, x13, x14, x15, x16, x17, x18, cv (.str x), none]
    obtain ⟨d2, b, ih, k1, k2⟩ := lcB S T x3 x4 x5 x6 x7 x8 x9 x10 x11 x12 x13 x14 x15 x16 x17 x18 ns (acc ++ [(x, v)]) d1
    refine ⟨d2, (x, v) :: b, ?_, by rw [← k1]; rfl, fun p hp => ?_⟩
    · have t := tup2 (.str x) (.int v) ((lw S ds T x3 x4 x5 x6 x7 x8 x9 x10 x11 x12 x13 x14 x15 x16 x17 x18).set 19 (cv (.str x))) (f := dVar 19) (h := dCall [some .lst, none] F__law_take (dCons (dOwn 1) (dCons (toA (dC (.int 6))) (dNil)))) rfl e
      rw [List.map_cons]
      unfold lcL
      have g : gN 19 (.str x) (lw S ds T x3 x4 x5 x6 x7 x8 x9 x10 x11 x12 x13 x14 x15 x16 x17 x18) = some ((lw S ds T x3 x4 x5 x6 x7 x8 x9 x10 x11 x12 x13 x14 x15 x16 x17 x18).set 19 (cv (.str x))) := rfl
      rw [g]
      simp only [Option.bind, dYes, okO, if_true, t]
      have k : kill [19] [cv S, ow d1, cv T, x3, x4, x5, x6, x7, x8, x9, x10, x11, x12, x13, x14, x15, x16, x17, x18, cv (.str x), none] = lw S d1 T x3 x4 x5 x6 x7 x8 x9 x10 x11 x12 x13 x14 x15 x16 x17 x18 := rfl
      rw [k]
      have a : encT acc ++ [.tuple [.str x, .int v]] = encT (acc ++ [(x, v)]) := by simp [encT]
      rw [a, ih, List.append_assoc]
      rfl
    · rcases List.mem_cons.mp hp with rfl | hp
      · exact ⟨h1, by show v ≤ 5; omega⟩
      · exact k2 p hp
theorem bounds1 (S : D) (ds : List Int) (T : D) (ns : List Str) (nd : ns.Nodup) (hl : ns.length ≤ 3) (x4 x5 x6 x7 x8 x9 x10 x11 x12 x13 x14 x15 x16 x17 x18 : Option Cell) : ∃ (b : Terms) (ds' : List Int), dSet 4 (dCallB gDictA (dCons (toA (dLc (dItemsA (dVar 3)) (gN 19) (dYes) (dTup (dCons (toA (dVar 19)) (dCons (toA (dCall [some .lst, none] F__law_take (dCons (dOwn 1) (dCons (toA (dC (.int 6))) (dNil))))) (dNil)))) [19])) (dNil))) (lw S ds T (cv (.list (ns.map .str))) x4 x5 x6 x7 x8 x9 x10 x11 x12 x13 x14 x15 x16 x17 x18) = .nx (lw S ds' T (cv (.list (ns.map .str))) (cv (encR b)) x5 x6 x7 x8 x9 x10 x11 x12 x13 x14 x15 x16 x17 x18) ∧ keys b = ns ∧ ∀ p ∈ b, 0 ≤ p.2 ∧ p.2 ≤ 5 := by
  obtain ⟨ds', b, e, k1, k2⟩ := lcB S T (cv (.list (ns.map .str))) x4 x5 x6 x7 x8 x9 x10 x11 x12 x13 x14 x15 x16 x17 x18 ns [] ds
  refine ⟨b, ds', ?_, k1, k2⟩
  refine Eq.trans (setE (d := encR b) (ρ1 := lw S ds' T (cv (.list (ns.map .str))) x4 x5 x6 x7 x8 x9 x10 x11 x12 x13 x14 x15 x16 x17 x18) (cB1 (d := .list (encT b)) ?_ (dict_enc (k1 ▸ nd)))) rfl
  unfold dLc
  have i : dItemsA (dVar 3) (lw S ds T (cv (.list (ns.map .str))) x4 x5 x6 x7 x8 x9 x10 x11 x12 x13 x14 x15 x16 x17 x18) = .ok (ns.map .str) (lw S ds T (cv (.list (ns.map .str))) x4 x5 x6 x7 x8 x9 x10 x11 x12 x13 x14 x15 x16 x17 x18) := rfl
  rw [i]
  have hz : (ns.map PyData.str).length ≤ 16777216 := by rw [List.length_map]; exact Nat.le_trans hl (by decide)
  show (if _ then _ else _) = _
  rw [if_pos hz]
  have k : kill [19] (lw S ds T (cv (.list (ns.map .str))) x4 x5 x6 x7 x8 x9 x10 x11 x12 x13 x14 x15 x16 x17 x18) = lw S ds T (cv (.list (ns.map .str))) x4 x5 x6 x7 x8 x9 x10 x11 x12 x13 x14 x15 x16 x17 x18 := rfl
  have n : ([] : List D) = encT [] := rfl
  rw [k, n, e, List.nil_append]
  have k2 : kill [19] (lw S ds' T (cv (.list (ns.map .str))) x4 x5 x6 x7 x8 x9 x10 x11 x12 x13 x14 x15 x16 x17 x18) = lw S ds' T (cv (.list (ns.map .str))) x4 x5 x6 x7 x8 x9 x10 x11 x12 x13 x14 x15 x16 x17 x18 := rfl
  have b2 : ∀ (ρ ρ' : DL.Env), (ρ[19]? = some none) → back [19] ρ ρ' = ρ' := fun ρ ρ' h => by simp [back, h]
  show Rs.ok (PyData.list (encT b)) (back [19] _ (kill [19] _)) = _
  rw [k2, b2 _ _ (by rfl)]
theorem fcall {F : List D → Res} {ds ds' : List Int} {z : D} (x c : Option Cell) (N : D) (x4 : Option Cell) (M : D) (r : DL.Env) (u : Unit) (e : F [.list (ds.map .int), N, M] = .ok z [.list (ds'.map .int)]) : dCall [some .lst, none, none] F (dCons (dOwn 1) (dCons (toA (dVar 3)) (dCons (toA (dVar 5)) dNil))) (x :: ow ds :: c :: cv N :: x4 :: cv M :: r) = .ok z (x :: ow ds' :: c :: cv N :: x4 :: cv M :: r) := by
  simp [dCall, dCons, dOwn, dVar, dNil, toA, Rs.bind, argD, e, ownIx, setOuts, ow, cv]
theorem forms1 (S : D) (ds : List Int) (T : D) (ns : List Str) (hl : ns.length ≤ 3) (many : Nat) (hm : many ≤ 2) (x4 x6 x7 x8 x9 x10 x11 x12 x13 x14 x15 x16 x17 x18 : Option Cell) : ∃ (ds' : List Int) (fs : List Form), dCall [some .lst, none, none] F__law_forms (dCons (dOwn 1) (dCons (toA (dVar 3)) (dCons (toA (dVar 5)) (dNil)))) (lw S ds T (cv (.list (ns.map .str))) x4 (cv (.int many)) x6 x7 x8 x9 x10 x11 x12 x13 x14 x15 x16 x17 x18) = .ok (eFs fs) (lw S ds' T (cv (.list (ns.map .str))) x4 (cv (.int many)) x6 x7 x8 x9 x10 x11 x12 x13 x14 x15 x16 x17 x18) ∧ fs.length = many ∧ ∀ f ∈ fs, Good ns f := by
  obtain ⟨ds', fs, e, l, g⟩ := eval_forms ns (by omega) many (by omega) ds
  refine ⟨ds', fs, ?_, l, g⟩
  exact fcall _ _ _ _ _ _ () e
end K47
end

section
set_option Elab.async false
set_option autoImplicit false
set_option linter.all false
set_option maxRecDepth 100000
set_option maxHeartbeats 2000000
namespace K47
open PySem DL
/-! ### a whole turn -/
theorem dNeA_bool (a b : Bool) : dNeA (.bool a) (.bool b) = some (.bool (!(a == b))) := by
  have sh : ∀ a : Bool, SeqAt.shaped (.bool a) = true := fun a => by simp [SeqAt.shaped, PyData.canLay0, PyData.depth]
  unfold dNeA dNe
  rw [if_pos ⟨sh a, sh b⟩]
  simp [PyData.eqv]
theorem rowsBy_len (b : Terms) : ∀ (ns : List Str) (rows : List Terms), (∀ x ∈ ns, (val b x).toNat ≤ 5) → (rowsBy b ns rows).length ≤ rows.length * 5 ^ ns.length
  | [], rows, _ => by simp [rowsBy]
  | x :: ns, rows, h => by
    have ih := rowsBy_len b ns (rowsOf rows x (val b x).toNat) fun y hy => h y (List.mem_cons_of_mem _ hy)
    have e : rowsBy b (x :: ns) rows = rowsBy b ns (rowsOf rows x (val b x).toNat) := rfl
    rw [e]
    refine Nat.le_trans ih ?_
    rw [rowsOf_len, List.length_cons, Nat.pow_succ, Nat.mul_comm (5 ^ ns.length) 5, ← Nat.mul_assoc]
    exact Nat.mul_le_mul_right _ (Nat.mul_le_mul_left _ (h x List.mem_cons_self))
theorem every_len {b : Terms} (nd : (keys b).Nodup) (hl : b.length ≤ 3) (hb : ∀ p ∈ b, p.2 ≤ 5) : (every b).length ≤ 1000 := by
  have h := rowsBy_len b (sortS (keys b)) [[]] fun x hx => by
    obtain ⟨p, hp, rfl⟩ := List.mem_map.mp ((sort_perm _).mem_iff.mp hx)
    rw [val_mem nd hp]
    have := hb p hp
    omega
  have kl : (keys b).length = b.length := by simp [keys]
  rw [(sort_perm (keys b)).length_eq, kl, List.length_singleton, Nat.one_mul] at h
  have : 5 ^ b.length ≤ 5 ^ 3 := Nat.pow_le_pow_right (by decide) hl
  unfold every
  omega
def lb (S : D) (ds : List Int) : DL.Env := [cv S, ow ds, none, none, none, none, none, none, none, none, none, none, none, none, none, none, none, none, none, none, none]
theorem turn (S : D) (ds : List Int) (T : D) : ∃ (ds' : List Int) (ρ' : DL.Env), b1_ (lw S ds T none none none none none none none none none none none none none none none none) = .nx ρ' ∧ kill [2, 3, 4, 5, 6, 7, 8, 9, 10, 11, 12, 13, 14, 15, 16, 17, 18] ρ' = lb S ds' := by
  obtain ⟨n, d1, e1, hn⟩ := names1 S ds T none none none none none none none none none none none none none none none none
  have ln : (nms n).length ≤ 3 := by rw [nms_len n hn]; exact hn
  obtain ⟨b, d2, e2, kb, vb⟩ := bounds1 S d1 T (nms n) (nms_nodup n) ln none none none none none none none none none none none none none none none
  obtain ⟨v, d3, e3, v0, v1⟩ := takeW S d2 2 (by decide) T (cv (.list ((nms n).map .str))) (cv (encR b)) none none none none none none none none none none none none none none
  obtain ⟨many, hm⟩ : ∃ many : Nat, 1 + v = (many : Int) := ⟨(1 + v).toNat, by omega⟩
  rw [hm] at e3
  have m2 : many ≤ 2 := by omega
  obtain ⟨d4, fs, e4, l4, g4⟩ := forms1 S d3 T (nms n) ln many m2 (cv (encR b)) none none none none none none none none none none none none none
  obtain ⟨d5, gs, e5, l5, g5⟩ := forms1 S d4 T (nms n) ln many m2 (cv (encR b)) none none none none none none none none none none none none none
  rw [← kb] at g4 g5
  have nd : (keys b).Nodup := kb ▸ nms_nodup n
  have hl : b.length ≤ 3 := by
    have : (keys b).length = b.length := by simp [keys]
    rw [kb] at this
    omega
  have h0 : ∀ p ∈ b, 0 ≤ p.2 := fun p hp => (vb p hp).1
  have hz := every_len nd hl fun p hp => (vb p hp).2
  have ev := eval_every (b := b) (fun p hp => by rw [val_mem nd hp]; exact vb p hp) nd hl
  have nv := eval_never (fs := fs) (gs := gs) (b := b) (fun f hf => ⟨good_okb (g4 f hf), good_len hl (g4 f hf)⟩) fun f hf => ⟨good_okb (g5 f hf), good_len hl (g5 f hf)⟩
  have nv2 := eval_never (fs := gs) (gs := fs) (b := b) (fun f hf => ⟨good_okb (g5 f hf), good_len hl (g5 f hf)⟩) fun f hf => ⟨good_okb (g4 f hf), good_len hl (g4 f hf)⟩
  rw [← never_symm] at nv2
  have due : ((every b).isEmpty || ((fs.drop 0).zip (gs.drop 0)).any fun p => apart p.1 p.2 b) = never fs gs b := by
    have : (every b).isEmpty = b.any fun p => p.2 == 0 := by
      rw [Bool.eq_iff_iff, List.isEmpty_iff]
      exact every_nil nd h0
    rw [this]
    rfl
  obtain ⟨ks, r1, rl, r2⟩ := lcRow (S := S) (ds := d5) (T := T) (x3 := (cv (.list ((nms n).map .str)))) (x4 := cv (encR b)) (x5 := cv (.int many)) (x6 := cv (eFs fs)) (x7 := cv (eFs gs)) (x8 := cv (.bool (never fs gs b))) (x10 := none) (x11 := none) (x12 := none) (x13 := none) (x14 := none) (x15 := none) (x16 := none) (x17 := none) (x18 := none) (rs := every b) (fs := fs) (ex := dVar 6) (fun r => rfl) (fun r hr f hf => ⟨good_ok nd (g4 f hf) hr, good_len hl (g4 f hf)⟩) (by omega) (by omega)
  obtain ⟨ls, s1, sl, s2⟩ := lcRow (S := S) (ds := d5) (T := T) (x3 := (cv (.list ((nms n).map .str)))) (x4 := cv (encR b)) (x5 := cv (.int many)) (x6 := cv (eFs fs)) (x7 := cv (eFs gs)) (x8 := cv (.bool (never fs gs b))) (x10 := none) (x11 := none) (x12 := none) (x13 := none) (x14 := none) (x15 := none) (x16 := none) (x17 := none) (x18 := none) (rs := every b) (fs := gs) (ex := dVar 7) (fun r => rfl) (fun r hr f hf => ⟨good_ok nd (g5 f hf) hr, good_len hl (g5 f hf)⟩) (by omega) (by omega)
  have meet : never fs gs b = true → (ks.any fun t => decide (t ∈ ls)) = false := fun h => by
    rw [List.any_eq_false]
    intro t ht hc
    obtain ⟨r, hr, rfl⟩ := List.mem_map.mp ((r2 t).mp ht)
    obtain ⟨s, hs, e⟩ := List.mem_map.mp ((s2 _).mp (by simpa using hc))
    exact never_rows nd h0 g4 g5 hr hs (by omega) h e.symm
  generalize never fs gs b = told at *
  have lm := lcMeet (S := S) (ds := d5) (T := T) (x3 := (cv (.list ((nms n).map .str)))) (x4 := cv (encR b)) (x5 := cv (.int many)) (x6 := cv (eFs fs)) (x7 := cv (eFs gs)) (x8 := cv (.bool told)) (x9 := cv (eRs (every b))) (x12 := none) (x13 := none) (x14 := none) (x15 := none) (x16 := none) (x17 := none) (x18 := none) ks ls (by omega)
  generalize (ks.any fun t => decide (t ∈ ls)) = met at *
  have lp := loopK S d5 T (.list ((nms n).map .str)) (.int many) (.dict (kv ks)) (.dict (kv ls)) (.bool met) b fs gs (.bool told) nd h0 hl hz g4 g5 (by omega) many 0 (every b).isEmpty (by omega) fun h => by rw [h]; rfl
  rw [due, ← range_cast] at lp
  have t6 : dOrT (dNotT (dTruth (toA (dIsi "bool" (toA (dVar 8)))))) (dAndT (dTruth (toA (dVar 8))) (dTruth (toA (dVar 12)))) (lw S d5 T (cv (.list ((nms n).map .str))) (cv (encR b)) (cv (.int many)) (cv (eFs fs)) (cv (eFs gs)) (cv (.bool told)) (cv (eRs (every b))) (cv (.dict (kv ks))) (cv (.dict (kv ls))) (cv (.bool met)) none none none none none none) = .ok false (lw S d5 T (cv (.list ((nms n).map .str))) (cv (encR b)) (cv (.int many)) (cv (eFs fs)) (cv (eFs gs)) (cv (.bool told)) (cv (eRs (every b))) (cv (.dict (kv ks))) (cv (.dict (kv ls))) (cv (.bool met)) none none none none none none) := by
    refine orE (a := false) (b := false) rfl fun _ => ?_
    cases told with
    | false => rfl
    | true => rw [meet rfl]; rfl
  have t9 : dOrT (dBinT dNeA (toA (dVar 8)) (toA (dVar 13))) (dBinT dNeA (toA (dCall [none, none, none] F_never_meet (dCons (toA (dVar 7)) (dCons (toA (dVar 6)) (dCons (toA (dVar 4)) (dNil)))))) (toA (dVar 8))) (lk S d5 T (.list ((nms n).map .str)) (.int many) (.dict (kv ks)) (.dict (kv ls)) (.bool met) b fs gs (.bool told) told none none none none none) = .ok false (lk S d5 T (.list ((nms n).map .str)) (.int many) (.dict (kv ks)) (.dict (kv ls)) (.bool met) b fs gs (.bool told) told none none none none none) :=
    orE (a := false) (b := false) (bT rfl rfl (by rw [dNeA_bool]; simp)) fun _ => bT (call3 rfl rfl rfl nv2) rfl (by rw [dNeA_bool]; simp)
  refine ⟨d5, lk S d5 T (.list ((nms n).map .str)) (.int many) (.dict (kv ks)) (.dict (kv ls)) (.bool met) b fs gs (.bool told) told none none none none none, ?_, rfl⟩
  unfold b1_ b_law_1
  rw [sq e1, sq e2]
  rw [sq (ρ1 := lw S d3 T (cv (.list ((nms n).map .str))) (cv (encR b)) (cv (.int many)) none none none none none none none none none none none none none) (by exact Eq.trans (setE e3) rfl)]
  rw [sq (ρ1 := lw S d5 T (cv (.list ((nms n).map .str))) (cv (encR b)) (cv (.int many)) (cv (eFs fs)) (cv (eFs gs)) none none none none none none none none none none none) (by exact asgE (tup2 _ _ _ e4 e5) rfl)]
  rw [sq (ρ1 := lw S d5 T (cv (.list ((nms n).map .str))) (cv (encR b)) (cv (.int many)) (cv (eFs fs)) (cv (eFs gs)) (cv (.bool told)) none none none none none none none none none none) (by exact Eq.trans (setE (call3 rfl rfl rfl nv)) rfl)]
  rw [sq (ρ1 := lw S d5 T (cv (.list ((nms n).map .str))) (cv (encR b)) (cv (.int many)) (cv (eFs fs)) (cv (eFs gs)) (cv (.bool told)) (cv (eRs (every b))) none none none none none none none none none) (by exact Eq.trans (setE (call1 rfl ev)) rfl)]
  rw [sq (ρ1 := lw S d5 T (cv (.list ((nms n).map .str))) (cv (encR b)) (cv (.int many)) (cv (eFs fs)) (cv (eFs gs)) (cv (.bool told)) (cv (eRs (every b))) (cv (.dict (kv ks))) (cv (.dict (kv ls))) none none none none none none none) (by exact asgE (tup2 _ _ _ r1 s1) rfl)]
  rw [sq (ρ1 := lw S d5 T (cv (.list ((nms n).map .str))) (cv (encR b)) (cv (.int many)) (cv (eFs fs)) (cv (eFs gs)) (cv (.bool told)) (cv (eRs (every b))) (cv (.dict (kv ks))) (cv (.dict (kv ls))) (cv (.bool met)) none none none none none none) (by exact Eq.trans (setE lm) rfl)]
  rw [sq (ρ1 := lw S d5 T (cv (.list ((nms n).map .str))) (cv (encR b)) (cv (.int many)) (cv (eFs fs)) (cv (eFs gs)) (cv (.bool told)) (cv (eRs (every b))) (cv (.dict (kv ks))) (cv (.dict (kv ls))) (cv (.bool met)) none none none none none none) (by rw [ifF t6]; rfl)]
  rw [sq (ρ1 := lk S d5 T (.list ((nms n).map .str)) (.int many) (.dict (kv ks)) (.dict (kv ls)) (.bool met) b fs gs (.bool told) (every b).isEmpty none none none none none) (by exact Eq.trans (setE (d := .bool (every b).isEmpty) (bE rfl (nilL _) (by rw [dEqA_nil, isEmpty_map]))) rfl)]
  have hm2 : (many : Int) < 2 ^ 62 := Int.lt_of_le_of_lt (b := 100) (by omega) (by decide)
  rw [sq (ρ1 := lk S d5 T (.list ((nms n).map .str)) (.int many) (.dict (kv ks)) (.dict (kv ls)) (.bool met) b fs gs (.bool told) told none none none none none) (by
    rw [forE (range1 many hm2 _ _ _ (by rfl))]
    exact lp)]
  rw [ifF t9]
  rfl
end K47
end

section
set_option Elab.async false
set_option autoImplicit false
set_option linter.all false
set_option maxRecDepth 100000
set_option maxHeartbeats 2000000
namespace K47
open PySem DL
/-! ### law answers True -/
theorem loopT (S : D) : ∀ (ks : List D) (ds : List Int), ∃ ds' : List Int, forL (gN 2) b1_ [2, 3, 4, 5, 6, 7, 8, 9, 10, 11, 12, 13, 14, 15, 16, 17, 18] ks (lb S ds) = .nx (lb S ds')
  | [], ds => ⟨ds, rfl⟩
  | k :: ks, ds => by
    obtain ⟨d1, ρ', e1, k1⟩ := turn S ds k
    obtain ⟨d2, e2⟩ := loopT S ks d1
    refine ⟨d2, ?_⟩
    rw [forC (ρ1 := lw S ds k none none none none none none none none none none none none none none none none) rfl e1, k1]
    exact e2
theorem last0 : F_never_meet [.tuple [], .tuple [], .dict []] = .ok (.bool false) [] := eval_never (fs := []) (gs := []) (b := []) (fun f h => nomatch h) (fun f h => nomatch h)
theorem last1 : F_never_meet [.tuple [.tuple [.int 1, .tuple []]], .tuple [.tuple [.int 2, .tuple []]], .dict []] = .ok (.bool true) [] :=
  eval_never (fs := [(1, [])]) (gs := [(2, [])]) (b := []) (fun f h => by rw [List.mem_singleton.mp h]; exact ⟨(fun p hp => nomatch hp), by simp⟩) (fun f h => by rw [List.mem_singleton.mp h]; exact ⟨(fun p hp => nomatch hp), by simp⟩)
theorem retE {f : DL.Env → Rs D} {ρ ρ1 : DL.Env} {d : D} (e : f ρ = .ok d ρ1) : dRet f ρ = .rt d ρ1 := by simp [dRet, e, Rs.to]
theorem law_true (ns : List Int) (h : ns.length ≤ 63) : ∃ outs, F_law [.list (ns.map .int)] = .ok (.bool true) outs := by
  obtain ⟨ds, e⟩ := draws_any ns h
  obtain ⟨d2, e2⟩ := loopT (.list (ns.map .int)) (rangeD 0 12) ds
  refine ⟨[], ?_⟩
  show noX (resOf [none] none (g_law F__law_draws F__law_take F__law_forms F_never_meet F__law_every F__law_row F__law_divisor F__law_at [cv (.list (ns.map .int)), none, none, none, none, none, none, none, none, none, none, none, none, none, none, none, none, none, none, none, none])) = _
  refine fin (ln := [none]) (ρ' := lb (.list (ns.map .int)) d2) ?_ rfl
  unfold g_law
  rw [sq (ρ1 := lb (.list (ns.map .int)) ds) (by
    have c := call1 (F := F__law_draws) (f := dVar 0) (ρ := [cv (.list (ns.map .int)), none, none, none, none, none, none, none, none, none, none, none, none, none, none, none, none, none, none, none, none]) rfl e
    unfold dSetF
    rw [c]
    rfl)]
  rw [sq (ρ1 := lb (.list (ns.map .int)) d2) (by
    rw [forE (range1 12 (by decide) (dC (.int 12)) _ _ rfl)]
    exact e2)]
  exact retE (andB (a := true) (b := true) (bE (call3 rfl rfl rfl last0) rfl rfl) (fun _ => bE (call3 (x := .tuple [.tuple [.int 1, .tuple []]]) (y := .tuple [.tuple [.int 2, .tuple []]]) (w := .dict []) (by rfl) (by rfl) (by rfl) last1) rfl rfl))
end K47
end

section
set_option Elab.async false
set_option autoImplicit false
set_option linter.all false
set_option maxRecDepth 100000
set_option maxHeartbeats 0
open PySem PySem.W PySem.Calls PyProof.Rows
theorem PySem.Challenge.cw_arraysaligned_k47_whole_places_that_neve_holds : PySem.Challenge.rw_arraysaligned_k47_whole_places_that_neve.Holds := by
  w_on; o_law
  refine HandSHeadRun.head_imp (r := OpenLaw.row PySem.Challenge.rw_arraysaligned_k47_whole_places_that_neve) (q := view K47.R.prog [0, 13]) (H := K47.hk) (ob := K47.ob) (M := 6000) (loose := K47.names) (d := HandSHeadRun.topDef (OpenLaw.row PySem.Challenge.rw_arraysaligned_k47_whole_places_that_neve).prog 13) (kwd := []) K47.ob_eq K47.run
    (by kernel_rfl) (by kernel_rfl) (by kernel_rfl) (by rfl) (by first | assumption | decide +kernel) (by decide +kernel) ⟨rfl, rfl, rfl, rfl, rfl, by decide +kernel⟩ ?hw ?hc
  case hw => w_witness2
  case hc =>
    refine LamX.walk_ofTsE (l := PySem.Challenge.rw_arraysaligned_k47_whole_places_that_neve) (n := 63) (k := 3) (x := "script") (CX := fun _ => L2.CX0) rfl (by decide) (by kernel_rfl) ⟨rfl, by decide, by decide⟩ ?F (fun _ _ _ _ _ z => z)
    intro w mg fa h Y G hmg0
    obtain ⟨K, KX, c⟩ := Y
    have hmg : mg ("law" : PySem.Str) = some (.ref fa) := by
      have e : (HandSHeadRun.topDef (OpenLaw.row PySem.Challenge.rw_arraysaligned_k47_whole_places_that_neve).prog 13).name = ("law" : PySem.Str) := by kernel_rfl
      rw [← e]
      exact hmg0
    exact ⟨K, KX, K47.facts KX G hmg c K47.law_true⟩
end
