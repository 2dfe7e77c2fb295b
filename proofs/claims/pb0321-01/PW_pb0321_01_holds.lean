import PyProof.Rows.All
import Wide.All
import OpenK.AllK
import Wide.FinOn
import PySem.Challenge.RW_pb0321_01
open PySem PySem.W PyProof.Rows
set_option Elab.async false
set_option maxRecDepth 100000
set_option maxHeartbeats 8000000
set_option linter.unusedVariables false
set_option linter.unusedSimpArgs false
set_option genSizeOf false
set_option genInjectivity false
namespace Mine
open_top hd for PySem.Challenge.rw_pb0321_01
theorem top_off : True := by
  w_top off
  exact True.intro
end Mine
open PySem.Calls
set_option backward.match.sparseCases false
namespace Mine
abbrev PRG : Program := PySem.Challenge.rw_pb0321_01.row.prog
abbrev LedT := List (Addr × Obj)
abbrev tup2 (a b : Value) : Obj := { cls := .type "tuple", data := .seq #[a, b] }
abbrev KND (w : World) := PySem.strKind PRG w
noncomputable def strTab : Nat → Str
  | 0 => Str.ofString "=" | 1 => Str.ofString "#" | 2 => Str.ofString "<" | 3 => Str.ofString "<=" | 4 => Str.ofString ">" | 5 => Str.ofString ">="
  | 6 => Str.ofString "sum" | 7 => Str.ofString "difference" | 8 => Str.ofString "product" | 9 => Str.ofString "negation" | 10 => Str.ofString "absolute"
  | 11 => Str.ofString "quotient" | 12 => Str.ofString "rest" | _ => Str.ofString "?"
theorem strTab_all : ((List.range 13).all fun i => (List.range 13).all fun j => (strTab i == strTab j) == (i == j)) = true := by decide +kernel
theorem strTab_eq {i j : Nat} (hi : i < 13) (hj : j < 13) : (strTab i == strTab j) = (i == j) := by
  have h := List.all_eq_true.mp (List.all_eq_true.mp strTab_all i (List.mem_range.mpr hi)) j (List.mem_range.mpr hj)
  exact eq_of_beq h
theorem strTab_inj {i j : Nat} (hi : i < 13) (hj : j < 13) (h : strTab i = strTab j) : i = j := by
  have e := strTab_eq hi hj
  rw [h, beq_self_eq_true] at e
  exact eq_of_beq e.symm
set_option genSizeOf false
/-- symbolic values: what a value of the model says, addresses and tokens left out -/
inductive SV where
  | undef | none | bool (b : Bool) | int (n : Int) | str (k : Nat) | tup (a b : SV) | ints (l : List Int) | strs (l : List Nat)
  | dnil | dcons (k : Nat) (x r : SV) | fdct (e : SV) | dct (e : SV)
noncomputable def StrVs : List Nat → List Value → Prop
  | [], vs => vs = []
  | k :: l, vs => ∃ t rest, vs = .str (strTab k) t :: rest ∧ k < 13 ∧ StrVs l rest
mutual
noncomputable def VR (w : World) (g : LedT) : SV → Value → Prop
  | .undef, _ => False
  | .none, v => v = .none
  | .bool b, v => v = .bool b
  | .int n, v => ∃ t, v = .int n t
  | .str k, v => k < 13 ∧ ∃ t, v = .str (strTab k) t
  | .tup a b, v => ∃ r va vb, v = .ref r ∧ (r, tup2 va vb) ∈ g ∧ VR w g a va ∧ VR w g b vb
  | .ints l, v => ∃ r vs n, v = .ref r ∧ (r, W.listOf (vs : List Value).toArray n) ∈ g ∧ IntsAre vs l
  | .strs l, v => ∃ r vs n, v = .ref r ∧ (r, W.listOf (vs : List Value).toArray n) ∈ g ∧ StrVs l vs
  | .fdct e, v => ∃ r o ws, v = .ref r ∧ (r, o) ∈ g ∧ (r == sysModules) = false ∧ o.IsDictOf (KND w) ws ∧ VRK w g e ws
  | .dct _, _ => False
  | .dnil, _ => False
  | .dcons _ _ _, _ => False
noncomputable def VRK (w : World) (g : LedT) : SV → List (Str × Value) → Prop
  | .dnil, ws => ws = []
  | .dcons k x r, ws => ∃ v rest, ws = (strTab k, v) :: rest ∧ k < 13 ∧ VR w g x v ∧ VRK w g r rest
  | .undef, _ => False
  | .none, _ => False
  | .bool _, _ => False
  | .int _, _ => False
  | .str _, _ => False
  | .tup _ _, _ => False
  | .ints _, _ => False
  | .strs _, _ => False
  | .fdct _, _ => False
  | .dct _, _ => False
end
noncomputable def Sub (g g' : LedT) : Prop := ∀ p ∈ g, p ∈ g'
theorem Sub.refl {g : LedT} : Sub g g := fun _ h => h
theorem Sub.trans {a b c : LedT} (h : Sub a b) (k : Sub b c) : Sub a c := fun p hp => k p (h p hp)
theorem Sub.consR {a b : LedT} {p : Addr × Obj} (h : Sub a b) : Sub a (p :: b) := fun q hq => .tail _ (h q hq)
theorem Sub.appR {a b c : LedT} (h : Sub a b) : Sub a (c ++ b) := fun q hq => List.mem_append_right _ (h q hq)
theorem Sub.appL {a b c : LedT} (h : Sub a b) : Sub a (b ++ c) := fun q hq => List.mem_append_left _ (h q hq)
/-- no dict within -/
noncomputable def flat : SV → Bool
  | .none => true | .bool _ => true | .int _ => true | .str _ => true | .tup a b => flat a && flat b | .ints _ => true | .strs _ => true
  | .undef => false | .dnil => true | .dcons _ x r => flat x && flat r | .fdct _ => false | .dct _ => false
theorem cls_tup {a b : Value} : (tup2 a b).cls ≠ .type "dict" := by intro h; injection h with h; exact absurd h (by decide)
theorem cls_list {x : Array Value} {n : Nat} : (W.listOf x n).cls ≠ .type "dict" := by intro h; injection h with h; exact absurd h (by decide)
/-- a flat value does not lean on the objects of class dict -/
noncomputable def noDict (g : LedT) : LedT := g.filter fun p => decide (p.2.cls ≠ .type "dict")
theorem mem_noDict {g : LedT} {a : Addr} {o : Obj} (h : (a, o) ∈ g) (hc : o.cls ≠ .type "dict") : (a, o) ∈ noDict g := List.mem_filter.mpr ⟨h, decide_eq_true hc⟩
theorem noDict_sub {g : LedT} : Sub (noDict g) g := fun _ hp => (List.mem_filter.mp hp).1
theorem vr_gen {w : World} {g g' : LedT} (ht : ∀ r a b, (r, tup2 a b) ∈ g → (r, tup2 a b) ∈ g') (hl : ∀ r us n, (r, W.listOf us n) ∈ g → (r, W.listOf us n) ∈ g') (sv : SV) : (flat sv = true ∨ Sub g g') → (∀ v, VR w g sv v → VR w g' sv v) ∧ ∀ ws, VRK w g sv ws → VRK w g' sv ws := by
  induction sv with
  | tup a b ha hb => exact fun hf => ⟨fun v => Exists.imp fun r => Exists.imp fun va => Exists.imp fun vb => And.imp id (And.imp (ht _ _ _) (And.imp ((ha (hf.imp_left fun h => (Bool.and_eq_true_iff.mp h).1)).1 _) ((hb (hf.imp_left fun h => (Bool.and_eq_true_iff.mp h).2)).1 _))), fun _ h => h⟩
  | «ints» l => exact fun _ => ⟨fun v => Exists.imp fun r => Exists.imp fun vs => Exists.imp fun n => And.imp id (And.imp (hl _ _ _) id), fun _ h => h⟩
  | «strs» l => exact fun _ => ⟨fun v => Exists.imp fun r => Exists.imp fun vs => Exists.imp fun n => And.imp id (And.imp (hl _ _ _) id), fun _ h => h⟩
  | fdct e ih => exact fun hf => ⟨fun v => Exists.imp fun r => Exists.imp fun o => Exists.imp fun ws => And.imp id (And.imp (hf.resolve_left nofun _) (And.imp id (And.imp id ((ih (.inr (hf.resolve_left nofun))).2 _)))), fun _ h => h⟩
  | dcons k x r hx hr => exact fun hf => ⟨fun _ h => h, fun ws => Exists.imp fun v => Exists.imp fun rest => And.imp id (And.imp id (And.imp ((hx (hf.imp_left fun h => (Bool.and_eq_true_iff.mp h).1)).1 _) ((hr (hf.imp_left fun h => (Bool.and_eq_true_iff.mp h).2)).2 _)))⟩
  | _ => exact fun _ => ⟨fun _ h => h, fun _ h => h⟩
theorem VR.mono {w : World} {g g' : LedT} (hs : Sub g g') {sv : SV} {v : Value} (h : VR w g sv v) : VR w g' sv v := (vr_gen (fun _ _ _ => hs _) (fun _ _ _ => hs _) sv (.inr hs)).1 v h
theorem VRK.mono {w : World} {g g' : LedT} (hs : Sub g g') {sv : SV} {ws : List (Str × Value)} (h : VRK w g sv ws) : VRK w g' sv ws := (vr_gen (fun _ _ _ => hs _) (fun _ _ _ => hs _) sv (.inr hs)).2 ws h
theorem VR.drop {w : World} {g : LedT} {sv : SV} {v : Value} (hf : flat sv = true) (h : VR w g sv v) : VR w (noDict g) sv v := (vr_gen (fun _ _ _ h => mem_noDict h cls_tup) (fun _ _ _ h => mem_noDict h cls_list) sv (.inl hf)).1 v h
theorem VRK.drop {w : World} {g : LedT} {sv : SV} {ws : List (Str × Value)} (hf : flat sv = true) (h : VRK w g sv ws) : VRK w (noDict g) sv ws := (vr_gen (fun _ _ _ h => mem_noDict h cls_tup) (fun _ _ _ h => mem_noDict h cls_list) sv (.inl hf)).2 ws h
noncomputable def VRs (w : World) (g : LedT) : List SV → List Value → Prop
  | [], vs => vs = []
  | x :: xs, vs => ∃ v rest, vs = v :: rest ∧ VR w g x v ∧ VRs w g xs rest
theorem VRs.mono {w : World} {g g' : LedT} (hs : Sub g g') {xs : List SV} : ∀ {vs : List Value}, VRs w g xs vs → VRs w g' xs vs := by
  induction xs with
  | nil => exact id
  | cons x xs ih => exact Exists.imp fun v => Exists.imp fun rest => And.imp id (And.imp (VR.mono hs) ih)
/-- the frame's names hold what ρ says -/
noncomputable def EnvG (V : SV → Value → Prop) (m : Str → Option Value) : List Str → List SV → Prop
  | [], [] => True
  | x :: xs, sv :: ρ => (sv = .undef ∨ ∃ v, m x = some v ∧ V sv v) ∧ EnvG V m xs ρ
  | _, _ => False
abbrev EnvR (w : World) (g : LedT) (m : Str → Option Value) (ns : List Str) (ρ : List SV) : Prop := EnvG (VR w g) m ns ρ
noncomputable def look : List SV → Nat → SV
  | [], _ => .undef
  | x :: _, 0 => x
  | _ :: r, n + 1 => look r n
noncomputable def upd : List SV → Nat → SV → List SV
  | [], _, _ => []
  | _ :: r, 0, y => y :: r
  | x :: r, n + 1, y => x :: upd r n y
noncomputable def nameAt : List Str → Nat → Str
  | [], _ => Str.ofString "?"
  | x :: _, 0 => x
  | _ :: r, n + 1 => nameAt r n
theorem EnvG.map {V V' : SV → Value → Prop} {m m' : Str → Option Value} {f : SV → SV} (hf : f .undef = .undef) (hv : ∀ sv v, V sv v → V' (f sv) v) : ∀ {ns : List Str} {ρ : List SV}, (∀ x ∈ ns, m' x = m x) → EnvG V m ns ρ → EnvG V' m' ns (ρ.map f)
  | [], [], _, h => h
  | x :: _, _ :: _, e, ⟨h1, h2⟩ => ⟨h1.imp (fun e => by rw [e, hf]) fun ⟨v, hm, hr⟩ => ⟨v, (e x (.head _)).trans hm, hv _ _ hr⟩, EnvG.map hf hv (fun y hy => e y (.tail _ hy)) h2⟩
  | [], _ :: _, _, h => h
  | _ :: _, [], _, h => h
theorem EnvG.imp {V V' : SV → Value → Prop} {m m' : Str → Option Value} (hv : ∀ sv v, V sv v → V' sv v) {ns : List Str} {ρ : List SV} (e : ∀ x ∈ ns, m' x = m x) (h : EnvG V m ns ρ) : EnvG V' m' ns ρ := by
  have := EnvG.map (f := id) rfl hv e h
  rwa [List.map_id] at this
theorem EnvR.mono {w : World} {g g' : LedT} {m : Str → Option Value} (hs : Sub g g') {ns : List Str} {ρ : List SV} (h : EnvR w g m ns ρ) : EnvR w g' m ns ρ := EnvG.imp (fun _ _ => VR.mono hs) (fun _ _ => rfl) h
theorem EnvG.look {V : SV → Value → Prop} {m : Str → Option Value} : ∀ {ns : List Str} {ρ : List SV} {i : Nat}, EnvG V m ns ρ → look ρ i ≠ .undef → ∃ v, m (nameAt ns i) = some v ∧ V (look ρ i) v
  | [], [], _, _, hu => absurd rfl hu
  | _ :: _, _ :: _, 0, ⟨h1, _⟩, hu => h1.elim (fun e => absurd e hu) id
  | _ :: _, _ :: _, n + 1, ⟨_, h2⟩, hu => EnvG.look (i := n) h2 hu
  | [], _ :: _, _, h, _ => h.elim
  | _ :: _, [], _, h, _ => h.elim
theorem nameAt_mem : ∀ {ns : List Str} {i : Nat}, i < ns.length → nameAt ns i ∈ ns
  | _ :: _, 0, _ => .head _
  | _ :: r, n + 1, h => .tail _ (nameAt_mem (ns := r) (Nat.lt_of_succ_lt_succ h))
theorem EnvG.upd {V : SV → Value → Prop} {m : Str → Option Value} {v : Value} {sv : SV} (hv : V sv v) : ∀ {ns : List Str} {ρ : List SV} {i : Nat}, ns.Nodup → i < ns.length → EnvG V m ns ρ → EnvG V (fun y => if y = nameAt ns i then some v else m y) ns (upd ρ i sv)
  | [], [], _, _, h, _ => absurd h (Nat.not_lt_zero _)
  | x :: xs, _ :: ρ, 0, hn, _, ⟨_, h2⟩ => ⟨.inr ⟨v, if_pos rfl, hv⟩, EnvG.imp (fun _ _ h => h) (fun y hy => if_neg (fun e => (List.nodup_cons.mp hn).1 (by rw [show x = y from e.symm]; exact hy))) h2⟩
  | x :: xs, _ :: ρ, n + 1, hn, hi, ⟨h1, h2⟩ => ⟨h1.imp id fun ⟨u, hu, hr⟩ => ⟨u, (if_neg (fun e => (List.nodup_cons.mp hn).1 (by
      have e' : x = nameAt xs n := e
      rw [e']; exact nameAt_mem (Nat.lt_of_succ_lt_succ hi)))).trans hu, hr⟩, EnvG.upd hv (List.nodup_cons.mp hn).2 (Nat.lt_of_succ_lt_succ hi) h2⟩
  | [], _ :: _, _, _, _, h => h.elim
  | _ :: _, [], _, _, _, h => h.elim
/-- names forgotten -/
noncomputable def forget (st : List Nat) (i : Nat) : List SV → List SV
  | [] => []
  | x :: r => (bif st.contains i then .undef else x) :: forget st (i + 1) r
/-- forgotten names may hold anything -/
theorem EnvG.forget {V : SV → Value → Prop} {m m' : Str → Option Value} {st : List Nat} : ∀ {ns : List Str} {ρ : List SV} {k : Nat}, (∀ j, j < ns.length → st.contains (k + j) = false → m' (nameAt ns j) = m (nameAt ns j)) → EnvG V m ns ρ → EnvG V m' ns (forget st k ρ)
  | [], [], _, _, h => h
  | x :: xs, sv :: ρ, k, e, ⟨h1, h2⟩ => by
    refine ⟨?_, EnvG.forget (fun j hj hs => ?_) h2⟩
    · cases hc : st.contains k with
      | true => exact .inl rfl
      | false => exact h1.imp id fun ⟨v, hm, hr⟩ => ⟨v, (e 0 (Nat.succ_pos _) hc).trans hm, hr⟩
    · exact e (j + 1) (Nat.succ_lt_succ hj) (by rw [show k + (j + 1) = k + 1 + j by omega]; exact hs)
  | [], _ :: _, _, _, h => h
  | _ :: _, [], _, _, h => h
theorem nameAt_inj : ∀ {ns : List Str} {i j : Nat}, ns.Nodup → i < ns.length → j < ns.length → nameAt ns i = nameAt ns j → i = j
  | x :: xs, 0, 0, _, _, _, _ => rfl
  | x :: xs, 0, j + 1, hn, _, hj, e => absurd (show x ∈ xs from by rw [show x = nameAt xs j from e]; exact nameAt_mem (Nat.lt_of_succ_lt_succ hj)) (List.nodup_cons.mp hn).1
  | x :: xs, i + 1, 0, hn, hi, _, e => absurd (show x ∈ xs from by rw [show x = nameAt xs i from e.symm]; exact nameAt_mem (Nat.lt_of_succ_lt_succ hi)) (List.nodup_cons.mp hn).1
  | x :: xs, i + 1, j + 1, hn, hi, hj, e => congrArg Nat.succ (nameAt_inj (ns := xs) (List.nodup_cons.mp hn).2 (Nat.lt_of_succ_lt_succ hi) (Nat.lt_of_succ_lt_succ hj) e)

set_option genSizeOf false
inductive Op1 where | neg | not | it0 | it1 | abs | mxL | mnL | one
inductive Op2 where | add | sub | mul | fdiv | mod | lt | le | gt | ge | eq | ne | is | isnot | mx | mn
/-- the own small form of an expression -/
inductive IE where
  | var (i : Nat) | lit (v : SV) | un (op : Op1) (e : IE) | bi (op : Op2) (a b : IE) | key (d k : IE) | bo (isAnd : Bool) (a b : IE) | ite (c a b : IE) | tup (a b : IE)
  | call (f : Nat) (as : IE) | lst (as : IE) | dict (as : IE) | anil | acons (k : Nat) (e r : IE)
abbrev FnT := List SV → (SV → Prop) → Prop
noncomputable def onB (K : Bool → Prop) : SV → Prop | .bool b => K b | _ => False
noncomputable def onI (K : Int → Prop) : SV → Prop | .int n => K n | _ => False
noncomputable def onS (K : Nat → Prop) : SV → Prop | .str k => K k | _ => False
noncomputable def onT (K : SV → SV → Prop) : SV → Prop | .tup a b => K a b | _ => False
noncomputable def onF (K : SV → Prop) : SV → Prop | .fdct e => K e | _ => False
noncomputable def onL (K : List Int → Prop) : SV → Prop | .ints l => K l | _ => False
noncomputable def onZ (K : Prop) : SV → Prop | .none => K | _ => False
noncomputable def onU (K : SV → Prop) : SV → Prop | .undef => False | s => K s
noncomputable def dget : SV → Nat → SV
  | .dcons k x r, j => bif k == j then x else dget r j
  | _, _ => .undef
noncomputable def dset : SV → Nat → SV → SV
  | .dcons k x r, j, y => bif k == j then .dcons k y r else .dcons k x (dset r j y)
  | _, j, y => .dcons j y .dnil
noncomputable def dkeys : SV → List Nat
  | .dcons k _ r => k :: dkeys r
  | _ => []
noncomputable def toL : SV → List SV
  | .dcons _ x r => x :: toL r
  | _ => []
noncomputable def gInts (ch : SV) : (List Int → Prop) → Prop → Prop :=
  match ch with
  | .dnil => fun K _ => K []
  | .dcons _ (.int n) r => fun K F => gInts r (fun l => K (n :: l)) F
  | _ => fun _ F => F
noncomputable def gStrs (ch : SV) : (List Nat → Prop) → Prop → Prop :=
  match ch with
  | .dnil => fun K _ => K []
  | .dcons _ (.str n) r => fun K F => gStrs r (fun l => K (n :: l)) F
  | _ => fun _ F => F
/-- data that == compares -/
noncomputable def isDat : Nat → SV → Bool
  | _, .none => true
  | _, .int _ => true
  | n + 1, .tup a b => isDat n a && isDat n b
  | _, _ => false
noncomputable def eqD : SV → SV → Bool
  | .none, .none => true
  | .int i, .int j => decide (i = j)
  | .tup a b, .tup c d => eqD a c && eqD b d
  | _, _ => false
noncomputable def isTup : SV → Bool | .tup _ _ => true | _ => false
noncomputable def addS (K : SV → Prop) : SV → SV → Prop
  | .int i, sb => onI (fun j => K (.int (i + j))) sb
  | .ints l, sb => onL (fun l' => l.length + l'.length ≤ 64 ∧ K (.ints (l ++ l'))) sb
  | _, _ => False
noncomputable def int2 (K : Int → Int → Prop) (a b : SV) : Prop := onI (fun i => onI (K i) b) a
noncomputable def eqS (K : Bool → Prop) : SV → SV → Prop
  | .int i, sb => onI (fun j => K (decide (i = j))) sb
  | .str i, sb => onS (fun j => K (i == j)) sb
  | .bool p, sb => onB (fun q => K (p == q)) sb
  | .none, sb => onZ (K true) sb
  | .tup a b, sb => onT (fun c d => (isDat 3 (.tup a b) && isDat 3 (.tup c d)) = true ∧ K (eqD (.tup a b) (.tup c d))) sb
  | _, _ => False
noncomputable def isS (K : Bool → Prop) : SV → SV → Prop
  | .none, sb => onZ (K true) sb
  | .tup _ _, sb => onZ (K false) sb
  | _, _ => False
noncomputable def unS (op : Op1) (K : SV → Prop) : SV → Prop :=
  match op with
  | .neg => onI fun n => K (.int (-n))
  | .not => onB fun b => K (.bool (!b))
  | .it0 => onT fun a _ => K a
  | .it1 => onT fun _ b => K b
  | .abs => onI fun n => K (.int (if n < 0 then -n else n))
  | .mxL => onL fun l => 0 < l.length ∧ ∀ M, M ∈ l → (∀ a ∈ l, a ≤ M) → K (.int M)
  | .mnL => onL fun l => 0 < l.length ∧ ∀ M, M ∈ l → (∀ a ∈ l, M ≤ a) → K (.int M)
  | .one => K
noncomputable def biS (op : Op2) (sa sb : SV) (K : SV → Prop) : Prop :=
  match op with
  | .add => addS K sa sb
  | .sub => int2 (fun i j => K (.int (i - j))) sa sb
  | .mul => int2 (fun i j => (i.natAbs < 1099511627776 ∧ j.natAbs < 1099511627776) ∧ K (.int (i * j))) sa sb
  | .fdiv => int2 (fun i j => (0 < j ∧ j < 1099511627776) ∧ K (.int (i / j))) sa sb
  | .mod => int2 (fun i j => 0 < j ∧ K (.int (i % j))) sa sb
  | .lt => int2 (fun i j => K (.bool (decide (i < j)))) sa sb
  | .le => int2 (fun i j => K (.bool (decide (i ≤ j)))) sa sb
  | .gt => int2 (fun i j => K (.bool (decide (j < i)))) sa sb
  | .ge => int2 (fun i j => K (.bool (decide (j ≤ i)))) sa sb
  | .eq => eqS (fun b => K (.bool b)) sa sb
  | .ne => eqS (fun b => K (.bool (!b))) sa sb
  | .is => isS (fun b => K (.bool b)) sa sb
  | .isnot => isS (fun b => K (.bool (!b))) sa sb
  | .mx => int2 (fun i j => K (.int (max i j))) sa sb
  | .mn => int2 (fun i j => K (.int (min i j))) sa sb
noncomputable def mkL (K : SV → Prop) (ch : SV) : Prop := gInts ch (fun l => K (.ints l)) (gStrs ch (fun l => K (.strs l)) False)
noncomputable def gval : Nat → Int | 0 => -2147483648 | _ => 2147483647
noncomputable def keysOk (l : List Nat) : Bool := decide l.Nodup && l.all (fun k => decide (k < 13))
/-- what must hold so that e, where the names hold ρ, evaluates to a value of K -/
noncomputable def wpE (Γ : Nat → FnT) (ρ : List SV) (ie : IE) : (SV → Prop) → Prop :=
  IE.rec (motive := fun _ => (SV → Prop) → Prop)
    (fun i K => onU K (look ρ i)) (fun v K => K v) (fun op _ w K => w (unS op K)) (fun op _ _ wa wb K => wa fun sa => wb fun sb => biS op sa sb K)
    (fun _ _ wd wk K => wd (onF fun e => wk (onS fun j => onU K (dget e j))))
    (fun isAnd _ _ wa wb K => wa (onB fun p => (p = isAnd → wb K) ∧ (p = !isAnd → K (.bool (!isAnd)))))
    (fun _ _ _ wc wa wb K => wc (onB fun p => (p = true → wa K) ∧ (p = false → wb K)))
    (fun _ _ wa wb K => wa fun sa => wb fun sb => K (.tup sa sb))
    (fun f _ w K => w fun ch => Γ f (toL ch) K) (fun _ w K => w (mkL K)) (fun _ w K => w fun ch => (flat ch && keysOk (dkeys ch)) = true ∧ K (.fdct ch))
    (fun K => K .dnil) (fun k _ _ we wr K => we fun v => wr fun rs => K (.dcons k v rs)) ie
section
variable {Γ : Nat → FnT} {ρ : List SV} {K : SV → Prop}
theorem w_var {i : Nat} : wpE Γ ρ (.var i) K = onU K (look ρ i) := rfl
theorem w_lit {v : SV} : wpE Γ ρ (.lit v) K = K v := rfl
theorem w_un {op : Op1} {a : IE} : wpE Γ ρ (.un op a) K = wpE Γ ρ a (unS op K) := rfl
theorem w_bi {op : Op2} {a b : IE} : wpE Γ ρ (.bi op a b) K = wpE Γ ρ a fun sa => wpE Γ ρ b fun sb => biS op sa sb K := rfl
theorem w_key {d k : IE} : wpE Γ ρ (.key d k) K = wpE Γ ρ d (onF fun e => wpE Γ ρ k (onS fun j => onU K (dget e j))) := rfl
theorem w_bo {i : Bool} {a b : IE} : wpE Γ ρ (.bo i a b) K = wpE Γ ρ a (onB fun p => (p = i → wpE Γ ρ b K) ∧ (p = !i → K (.bool (!i)))) := rfl
theorem w_ite {c a b : IE} : wpE Γ ρ (.ite c a b) K = wpE Γ ρ c (onB fun p => (p = true → wpE Γ ρ a K) ∧ (p = false → wpE Γ ρ b K)) := rfl
theorem w_tup {a b : IE} : wpE Γ ρ (.tup a b) K = wpE Γ ρ a fun sa => wpE Γ ρ b fun sb => K (.tup sa sb) := rfl
theorem w_call {f : Nat} {as : IE} : wpE Γ ρ (.call f as) K = wpE Γ ρ as fun ch => Γ f (toL ch) K := rfl
theorem w_lst {as : IE} : wpE Γ ρ (.lst as) K = wpE Γ ρ as (mkL K) := rfl
theorem w_dict {as : IE} : wpE Γ ρ (.dict as) K = wpE Γ ρ as fun ch => (flat ch && keysOk (dkeys ch)) = true ∧ K (.fdct ch) := rfl
theorem w_anil : wpE Γ ρ .anil K = K .dnil := rfl
theorem w_acons {k : Nat} {e r : IE} : wpE Γ ρ (.acons k e r) K = wpE Γ ρ e fun v => wpE Γ ρ r fun rs => K (.dcons k v rs) := rfl
end
noncomputable def tr1 : Op1 → Bool | .not => true | .one => true | _ => false
noncomputable def tr2 : Op2 → Bool | .lt => true | .le => true | .gt => true | .ge => true | .eq => true | .ne => true | .is => true | .isnot => true | _ => false
noncomputable def trOk (ie : IE) : Bool := IE.rec (motive := fun _ => Bool) (fun _ => true) (fun _ => false) (fun op _ b => tr1 op && b) (fun op _ _ _ _ => tr2 op) (fun _ _ _ _ => false) (fun _ _ _ a b => a && b) (fun _ _ _ _ _ _ => false) (fun _ _ _ _ => false) (fun _ _ _ => true) (fun _ _ => false) (fun _ _ => false) false (fun _ _ _ _ _ => false) ie
/-- what the checker knows: the names of the frame, the scope, how many contracts may be used -/
structure Ck where
  ns : List Str
  cs : Scope
  n : Nat
noncomputable def locOk (cs : Scope) (x : Str) : Bool := decide (cs.kind = .function) && decide ((envOf (Str.ofString "") cs 0 0 .none).kindOf x = some .local) && !(x == ("__debug__" : Str))
noncomputable def globOk (cs : Scope) (x : Str) : Bool := decide (cs.kind = .function) && decide ((envOf (Str.ofString "") cs 0 0 .none).kindOf x = some .globalImplicit) && !(x == ("__debug__" : Str))
noncomputable def fnam (k : Nat) : Str := List.getD [Str.ofString "full", Str.ofString "clipped", Str.ofString "add", Str.ofString "sub", Str.ofString "mul", Str.ofString "neg", Str.ofString "absolute", Str.ofString "div", Str.ofString "mod", Str.ofString "contains", Str.ofString "within", Str.ofString "join", Str.ofString "widen", Str.ofString "meet", Str.ofString "below", Str.ofString "without", Str.ofString "apart", Str.ofString "narrow", Str.ofString "opposite", Str.ofString "_law_ok", Str.ofString "_law_floor", Str.ofString "_law_results", Str.ofString "_law_traps", Str.ofString "_law_deeds", Str.ofString "_law_true", Str.ofString "_law_can", Str.ofString "_law_narrowed", Str.ofString "_law_together"] k (Str.ofString "?")
noncomputable def fadr (k : Nat) : Addr := if k < 19 then 7 * k + 21 else 7 * k + 56
noncomputable def gnam : Nat → Str | 0 => Str.ofString "LEAST" | _ => Str.ofString "GREATEST"
noncomputable def bnam : Nat → Str | 0 => Str.ofString "max" | 1 => Str.ofString "min" | _ => Str.ofString "abs"
/-- the parts of a tree that the checker looks at -/
inductive EV where
  | name (x : Str) | const (k : Const) | sub (v i : Expr) | un (o : UnaryOp) (v : Expr) | bin (l : Expr) (o : Operator) (r : Expr) | cmp (l : Expr) (o : List CmpOp) (r : List Expr)
  | bool (o : BoolOp) (vs : List Expr) (p : Pos) | ife (t x y : Expr) | tup (es : List Expr) | call (f : Expr) (as : List Expr) (kw : List Keyword) | list (es : List Expr) | dict (ks : List (Option Expr)) (vs : List Expr) | other
noncomputable def view (e : Expr) : EV := match e with
  | .Name x _ => .name x | .Constant k _ _ => .const k | .Subscript v i _ => .sub v i | .UnaryOp o v _ => .un o v | .BinOp l o r _ => .bin l o r | .Compare l o r _ => .cmp l o r
  | .BoolOp o vs p => .bool o vs p | .IfExp t x y _ => .ife t x y | .Tuple es _ _ => .tup es | .Call f as kw _ => .call f as kw | .List es _ => .list es | .Dict ks vs _ => .dict ks vs | _ => .other
noncomputable def Back (v : EV) (e : Expr) : Prop := EV.rec (motive := fun _ => Prop)
  (fun x => ∃ p, e = .Name x p) (fun k => ∃ n p, e = .Constant k n p) (fun v i => ∃ p, e = .Subscript v i p) (fun o v => ∃ p, e = .UnaryOp o v p) (fun l o r => ∃ p, e = .BinOp l o r p) (fun l o r => ∃ p, e = .Compare l o r p)
  (fun o vs p => e = .BoolOp o vs p) (fun t x y => ∃ p, e = .IfExp t x y p) (fun es => ∃ k p, e = .Tuple es k p) (fun f as kw => ∃ p, e = .Call f as kw p) (fun es => ∃ p, e = .List es p) (fun ks vs => ∃ p, e = .Dict ks vs p) True v
theorem view_ok (e : Expr) : Back (view e) e := by cases e <;> first | exact True.intro | exact ⟨_, rfl⟩ | exact ⟨_, _, rfl⟩ | rfl
theorem bad {P : Prop} {b : Bool} (h : b = true) (k : b = false) : P := by rw [h] at k; cases k
theorem and3 {a b : Bool} (h : (a && b) = true) : a = true ∧ b = true := Bool.and_eq_true_iff.mp h
theorem bnot {b : Bool} (h : (!b) = true) : b = false := by cases b <;> first | exact rfl | cases h
noncomputable def gName (F : Str → Bool) (v : EV) : Bool := EV.rec (motive := fun _ => Bool) F (fun _ => false) (fun _ _ => false) (fun _ _ => false) (fun _ _ _ => false) (fun _ _ _ => false) (fun _ _ _ => false) (fun _ _ _ => false) (fun _ => false) (fun _ _ _ => false) (fun _ => false) (fun _ _ => false) false v
theorem in_name {F : Str → Bool} {e : Expr} (h : gName F (view e) = true) : ∃ x p, e = .Name x p ∧ F x = true := by
  have hb := view_ok e
  generalize view e = v at h hb
  cases v with
  | name x => obtain ⟨p, rfl⟩ := hb; exact ⟨x, p, rfl, h⟩
  | _ => exact bad h rfl
noncomputable def gConst (F : Const → Bool) (v : EV) : Bool := EV.rec (motive := fun _ => Bool) (fun _ => false) F (fun _ _ => false) (fun _ _ => false) (fun _ _ _ => false) (fun _ _ _ => false) (fun _ _ _ => false) (fun _ _ _ => false) (fun _ => false) (fun _ _ _ => false) (fun _ => false) (fun _ _ => false) false v
theorem in_const {F : Const → Bool} {e : Expr} (h : gConst F (view e) = true) : ∃ k n p, e = .Constant k n p ∧ F k = true := by
  have hb := view_ok e
  generalize view e = v at h hb
  cases v with
  | const k => obtain ⟨n, p, rfl⟩ := hb; exact ⟨k, n, p, rfl, h⟩
  | _ => exact bad h rfl
noncomputable def gSub (F : Expr → Expr → Bool) (v : EV) : Bool := EV.rec (motive := fun _ => Bool) (fun _ => false) (fun _ => false) F (fun _ _ => false) (fun _ _ _ => false) (fun _ _ _ => false) (fun _ _ _ => false) (fun _ _ _ => false) (fun _ => false) (fun _ _ _ => false) (fun _ => false) (fun _ _ => false) false v
theorem in_sub {F : Expr → Expr → Bool} {e : Expr} (h : gSub F (view e) = true) : ∃ v i p, e = .Subscript v i p ∧ F v i = true := by
  have hb := view_ok e
  generalize view e = v at h hb
  cases v with
  | sub v i => obtain ⟨p, rfl⟩ := hb; exact ⟨v, i, p, rfl, h⟩
  | _ => exact bad h rfl
noncomputable def gUn (F : UnaryOp → Expr → Bool) (v : EV) : Bool := EV.rec (motive := fun _ => Bool) (fun _ => false) (fun _ => false) (fun _ _ => false) F (fun _ _ _ => false) (fun _ _ _ => false) (fun _ _ _ => false) (fun _ _ _ => false) (fun _ => false) (fun _ _ _ => false) (fun _ => false) (fun _ _ => false) false v
theorem in_un {F : UnaryOp → Expr → Bool} {e : Expr} (h : gUn F (view e) = true) : ∃ o v p, e = .UnaryOp o v p ∧ F o v = true := by
  have hb := view_ok e
  generalize view e = v at h hb
  cases v with
  | un o v => obtain ⟨p, rfl⟩ := hb; exact ⟨o, v, p, rfl, h⟩
  | _ => exact bad h rfl
noncomputable def gBin (F : Expr → Operator → Expr → Bool) (v : EV) : Bool := EV.rec (motive := fun _ => Bool) (fun _ => false) (fun _ => false) (fun _ _ => false) (fun _ _ => false) F (fun _ _ _ => false) (fun _ _ _ => false) (fun _ _ _ => false) (fun _ => false) (fun _ _ _ => false) (fun _ => false) (fun _ _ => false) false v
theorem in_bin {F : Expr → Operator → Expr → Bool} {e : Expr} (h : gBin F (view e) = true) : ∃ l o r p, e = .BinOp l o r p ∧ F l o r = true := by
  have hb := view_ok e
  generalize view e = v at h hb
  cases v with
  | bin l o r => obtain ⟨p, rfl⟩ := hb; exact ⟨l, o, r, p, rfl, h⟩
  | _ => exact bad h rfl
noncomputable def gCmp (F : Expr → List CmpOp → List Expr → Bool) (v : EV) : Bool := EV.rec (motive := fun _ => Bool) (fun _ => false) (fun _ => false) (fun _ _ => false) (fun _ _ => false) (fun _ _ _ => false) F (fun _ _ _ => false) (fun _ _ _ => false) (fun _ => false) (fun _ _ _ => false) (fun _ => false) (fun _ _ => false) false v
theorem in_cmp {F : Expr → List CmpOp → List Expr → Bool} {e : Expr} (h : gCmp F (view e) = true) : ∃ l o r p, e = .Compare l o r p ∧ F l o r = true := by
  have hb := view_ok e
  generalize view e = v at h hb
  cases v with
  | cmp l o r => obtain ⟨p, rfl⟩ := hb; exact ⟨l, o, r, p, rfl, h⟩
  | _ => exact bad h rfl
noncomputable def gBool (F : BoolOp → List Expr → Pos → Bool) (v : EV) : Bool := EV.rec (motive := fun _ => Bool) (fun _ => false) (fun _ => false) (fun _ _ => false) (fun _ _ => false) (fun _ _ _ => false) (fun _ _ _ => false) F (fun _ _ _ => false) (fun _ => false) (fun _ _ _ => false) (fun _ => false) (fun _ _ => false) false v
theorem in_bool {F : BoolOp → List Expr → Pos → Bool} {e : Expr} (h : gBool F (view e) = true) : ∃ o vs p, e = .BoolOp o vs p ∧ F o vs p = true := by
  have hb := view_ok e
  generalize view e = v at h hb
  cases v with
  | bool o vs p => cases hb; exact ⟨o, vs, p, rfl, h⟩
  | _ => exact bad h rfl
noncomputable def gIfe (F : Expr → Expr → Expr → Bool) (v : EV) : Bool := EV.rec (motive := fun _ => Bool) (fun _ => false) (fun _ => false) (fun _ _ => false) (fun _ _ => false) (fun _ _ _ => false) (fun _ _ _ => false) (fun _ _ _ => false) F (fun _ => false) (fun _ _ _ => false) (fun _ => false) (fun _ _ => false) false v
theorem in_ife {F : Expr → Expr → Expr → Bool} {e : Expr} (h : gIfe F (view e) = true) : ∃ t x y p, e = .IfExp t x y p ∧ F t x y = true := by
  have hb := view_ok e
  generalize view e = v at h hb
  cases v with
  | ife t x y => obtain ⟨p, rfl⟩ := hb; exact ⟨t, x, y, p, rfl, h⟩
  | _ => exact bad h rfl
noncomputable def gTup (F : List Expr → Bool) (v : EV) : Bool := EV.rec (motive := fun _ => Bool) (fun _ => false) (fun _ => false) (fun _ _ => false) (fun _ _ => false) (fun _ _ _ => false) (fun _ _ _ => false) (fun _ _ _ => false) (fun _ _ _ => false) F (fun _ _ _ => false) (fun _ => false) (fun _ _ => false) false v
theorem in_tup {F : List Expr → Bool} {e : Expr} (h : gTup F (view e) = true) : ∃ es k p, e = .Tuple es k p ∧ F es = true := by
  have hb := view_ok e
  generalize view e = v at h hb
  cases v with
  | tup es => obtain ⟨k, p, rfl⟩ := hb; exact ⟨es, k, p, rfl, h⟩
  | _ => exact bad h rfl
noncomputable def gCall (F : Expr → List Expr → List Keyword → Bool) (v : EV) : Bool := EV.rec (motive := fun _ => Bool) (fun _ => false) (fun _ => false) (fun _ _ => false) (fun _ _ => false) (fun _ _ _ => false) (fun _ _ _ => false) (fun _ _ _ => false) (fun _ _ _ => false) (fun _ => false) F (fun _ => false) (fun _ _ => false) false v
theorem in_call {F : Expr → List Expr → List Keyword → Bool} {e : Expr} (h : gCall F (view e) = true) : ∃ f as kw p, e = .Call f as kw p ∧ F f as kw = true := by
  have hb := view_ok e
  generalize view e = v at h hb
  cases v with
  | call f as kw => obtain ⟨p, rfl⟩ := hb; exact ⟨f, as, kw, p, rfl, h⟩
  | _ => exact bad h rfl
noncomputable def gList (F : List Expr → Bool) (v : EV) : Bool := EV.rec (motive := fun _ => Bool) (fun _ => false) (fun _ => false) (fun _ _ => false) (fun _ _ => false) (fun _ _ _ => false) (fun _ _ _ => false) (fun _ _ _ => false) (fun _ _ _ => false) (fun _ => false) (fun _ _ _ => false) F (fun _ _ => false) false v
theorem in_list {F : List Expr → Bool} {e : Expr} (h : gList F (view e) = true) : ∃ es p, e = .List es p ∧ F es = true := by
  have hb := view_ok e
  generalize view e = v at h hb
  cases v with
  | list es => obtain ⟨p, rfl⟩ := hb; exact ⟨es, p, rfl, h⟩
  | _ => exact bad h rfl
noncomputable def gDict (F : List (Option Expr) → List Expr → Bool) (v : EV) : Bool := EV.rec (motive := fun _ => Bool) (fun _ => false) (fun _ => false) (fun _ _ => false) (fun _ _ => false) (fun _ _ _ => false) (fun _ _ _ => false) (fun _ _ _ => false) (fun _ _ _ => false) (fun _ => false) (fun _ _ _ => false) (fun _ => false) F false v
theorem in_dict {F : List (Option Expr) → List Expr → Bool} {e : Expr} (h : gDict F (view e) = true) : ∃ ks vs p, e = .Dict ks vs p ∧ F ks vs = true := by
  have hb := view_ok e
  generalize view e = v at h hb
  cases v with
  | dict ks vs => obtain ⟨p, rfl⟩ := hb; exact ⟨ks, vs, p, rfl, h⟩
  | _ => exact bad h rfl
noncomputable def l1 {α : Type} (F : α → Bool) : List α → Bool | [] => false | x :: r => r.isEmpty && F x
noncomputable def l2 {α : Type} (F : α → α → Bool) : List α → Bool | [] => false | x :: r => l1 (F x) r
noncomputable def c2 {α : Type} (F : α → α → List α → Bool) : List α → Bool | [] => false | x :: r => List.rec (motive := fun _ => Bool) false (fun y t _ => F x y t) r
theorem in_l1 {α : Type} {F : α → Bool} {l : List α} (h : l1 F l = true) : ∃ x, l = [x] ∧ F x = true := by
  cases l with
  | nil => exact bad h rfl
  | cons x r => exact ⟨x, by rw [List.isEmpty_iff.mp (and3 h).1], (and3 h).2⟩
theorem in_l2 {α : Type} {F : α → α → Bool} {l : List α} (h : l2 F l = true) : ∃ x y, l = [x, y] ∧ F x y = true := by
  cases l with
  | nil => exact bad h rfl
  | cons x r => obtain ⟨y, rfl, h⟩ := in_l1 h; exact ⟨x, y, rfl, h⟩
theorem in_c2 {α : Type} {F : α → α → List α → Bool} {l : List α} (h : c2 F l = true) : ∃ x y r, l = x :: y :: r ∧ F x y r = true := by
  cases l with
  | nil => exact bad h rfl
  | cons x r =>
    cases r with
    | nil => exact bad h rfl
    | cons y t => exact ⟨x, y, t, rfl, h⟩
noncomputable def isStar (e : Expr) : Bool := match e with | .Starred _ _ => true | _ => false
noncomputable def isSlice (e : Expr) : Bool := match e with | .Slice _ _ _ _ => true | _ => false
noncomputable def arOf : Op2 → Option Operator | .add => some .Add | .sub => some .Sub | .mul => some .Mult | .fdiv => some .FloorDiv | .mod => some .Mod | _ => none
noncomputable def cmOf : Op2 → Option CmpOp | .lt => some .Lt | .le => some .LtE | .gt => some .Gt | .ge => some .GtE | .eq => some .Eq | .ne => some .NotEq | .is => some .Is | .isnot => some .IsNot | _ => none
theorem arOf_elim {P : Op2 → Operator → Prop} (h1 : P .add .Add) (h2 : P .sub .Sub) (h3 : P .mul .Mult) (h4 : P .fdiv .FloorDiv) (h5 : P .mod .Mod) {op : Op2} {o : Operator} (ho : arOf op = some o) : P op o := by
  have h : (arOf op).rec (motive := fun _ => Prop) True (P op) := by cases op <;> first | exact h1 | exact h2 | exact h3 | exact h4 | exact h5 | exact True.intro
  rw [ho] at h; exact h
theorem cmOf_elim {P : Op2 → CmpOp → Prop} (h1 : P .lt .Lt) (h2 : P .le .LtE) (h3 : P .gt .Gt) (h4 : P .ge .GtE) (h5 : P .eq .Eq) (h6 : P .ne .NotEq) (h7 : P .is .Is) (h8 : P .isnot .IsNot) {op : Op2} {o : CmpOp} (ho : cmOf op = some o) : P op o := by
  have h : (cmOf op).rec (motive := fun _ => Prop) True (P op) := by cases op <;> first | exact h1 | exact h2 | exact h3 | exact h4 | exact h5 | exact h6 | exact h7 | exact h8 | exact True.intro
  rw [ho] at h; exact h
noncomputable def unOf : Op1 → Option UnaryOp | .neg => some .USub | .not => some .Not | _ => none
noncomputable def bopOf : Bool → BoolOp | true => .And | false => .Or
noncomputable def cI (k : Int) : Const → Bool | .int m => k == m | _ => false
noncomputable def cB (k : Bool) : Const → Bool | .bool m => k == m | _ => false
noncomputable def cS (k : Nat) : Const → Bool | .str x => x == strTab k | _ => false
noncomputable def cN : Const → Bool | .none => true | _ => false
theorem in_cI {k : Int} {q : Const} (h : cI k q = true) : q = .int k := by
  cases q with
  | int m => rw [eq_of_beq h]
  | _ => exact bad h rfl
theorem in_cB {k : Bool} {q : Const} (h : cB k q = true) : q = .bool k := by
  cases q with
  | bool m => rw [eq_of_beq h]
  | _ => exact bad h rfl
theorem in_cS {k : Nat} {q : Const} (h : cS k q = true) : q = .str (strTab k) := by
  cases q with
  | str m => rw [eq_of_beq h]
  | _ => exact bad h rfl
theorem in_cN {q : Const} (h : cN q = true) : q = .none := by
  cases q with
  | none => exact rfl
  | _ => exact bad h rfl
noncomputable def nameIs (cs : Scope) (x : Str) (f : Expr) : Bool := gName (fun y => (x == y) && globOk cs x) (view f)
noncomputable def cInt (k : Int) (e : Expr) : Bool := gConst (cI k) (view e)
noncomputable def o2 : Op2 → Nat | .mx => 1 | .mn => 2 | _ => 0
noncomputable def o1 : Op1 → Nat | .it0 => 1 | .it1 => 2 | .abs => 3 | .mxL => 4 | .mnL => 5 | .one => 6 | _ => 0
noncomputable def kTwo (op : Op2) (cs : Scope) (A B : Expr → Bool) (v : EV) : Bool :=
  gBin (fun l o r => decide (arOf op = some o) && (A l && B r)) v || (gCmp (fun l os rs => l1 (fun o => l1 (fun r => decide (cmOf op = some o) && (A l && B r)) rs) os) v ||
    gCall (fun f as kw => kw.isEmpty && l2 (fun x y => (((o2 op == 1) && nameIs cs (bnam 0) f || (o2 op == 2) && nameIs cs (bnam 1) f) && (!isStar x && !isStar y)) && (A x && B y)) as) v)
noncomputable def kUno (op : Op1) (cs : Scope) (A : Expr → Bool) (v : EV) : Bool :=
  gUn (fun o x => decide (unOf op = some o) && A x) v || (gSub (fun x i => ((o1 op == 1) && cInt 0 i || (o1 op == 2) && cInt 1 i) && A x) v || (gBool (fun _ vs _ => (o1 op == 6) && l1 A vs) v ||
    gCall (fun f as kw => kw.isEmpty && l1 (fun x => ((((o1 op == 3) && nameIs cs (bnam 2) f || (o1 op == 4) && nameIs cs (bnam 0) f) || (o1 op == 5) && nameIs cs (bnam 1) f) && !isStar x) && A x) as) v))
noncomputable def gOk (cs : Scope) (n : Int) (k : Nat) (x : Str) : Bool := (n == gval k) && ((x == gnam k) && globOk cs (gnam k))
noncomputable def litOk (cs : Scope) (sv : SV) (v : EV) : Bool := match sv with
  | .int n => gConst (cI n) v || gName (fun x => gOk cs n 0 x || gOk cs n 1 x) v
  | .bool b => gConst (cB b) v
  | .none => gConst cN v
  | .str k => decide (k < 13) && gConst (cS k) v
  | _ => false
abbrev Chk3 := (Expr → Bool) × (List Expr → Bool) × (List (Option Expr) → List Expr → Bool)
noncomputable def noA : List Expr → Bool := fun _ => false
noncomputable def noP : List (Option Expr) → List Expr → Bool := fun _ _ => false
noncomputable def no3 (f : Expr → Bool) : Chk3 := (f, noA, noP)
noncomputable def kName (c : Ck) (i : Nat) (v : EV) : Bool := gName (fun x => decide (i < c.ns.length) && (nameAt c.ns i == x)) v
noncomputable def kKey (a b : Expr → Bool) (v : EV) : Bool := gSub (fun x i => !isSlice i && (a x && b i)) v
noncomputable def kBo (isAnd : Bool) (a b : Expr → Bool) (v : EV) : Bool := gBool (fun o vs p => decide (o = bopOf isAnd) && c2 (fun x y r => a x && b (.BoolOp o (y :: r) p)) vs) v
noncomputable def kIte (ok : Bool) (t a b : Expr → Bool) (v : EV) : Bool := gIfe (fun x y z => (ok && t x) && (a y && b z)) v
noncomputable def kTup (a b : Expr → Bool) (v : EV) : Bool := gTup (l2 fun x y => (!isStar x && !isStar y) && (a x && b y)) v
noncomputable def kCall (c : Ck) (f : Nat) (a : List Expr → Bool) (v : EV) : Bool := gCall (fun g as kw => kw.isEmpty && ((decide (f < c.n) && nameIs c.cs (fnam f) g) && a as)) v
noncomputable def kLst (a : List Expr → Bool) (v : EV) : Bool := gList (fun es => decide (es.length ≤ 16) && a es) v
noncomputable def kDict (a : List (Option Expr) → List Expr → Bool) (v : EV) : Bool := gDict (fun ks vs => decide (ks.length ≤ 15 ∧ ks ≠ []) && a ks vs) v
noncomputable def kCons (a : Expr → Bool) (r : List Expr → Bool) : List Expr → Bool | x :: xs => !isStar x && (a x && r xs) | [] => false
noncomputable def kKeyStr (k : Nat) : Option Expr → Bool | some e => gConst (cS k) (view e) | none => false
noncomputable def kPair (k : Nat) (a : Expr → Bool) (r : List (Option Expr) → List Expr → Bool) : List (Option Expr) → List Expr → Bool
  | e :: ks, v :: vs => kKeyStr k e && (a v && r ks vs) | _, _ => false
/-- the tree is the expression -/
noncomputable def chk3 (c : Ck) (ie : IE) : Chk3 := IE.rec (motive := fun _ => Chk3)
  (fun i => no3 fun e => kName c i (view e)) (fun sv => no3 fun e => litOk c.cs sv (view e)) (fun op _ a => no3 fun e => kUno op c.cs a.1 (view e)) (fun op _ _ a b => no3 fun e => kTwo op c.cs a.1 b.1 (view e))
  (fun _ _ a b => no3 fun e => kKey a.1 b.1 (view e)) (fun i _ _ a b => no3 fun e => kBo i a.1 b.1 (view e)) (fun t _ _ x a b => no3 fun e => kIte (trOk t) x.1 a.1 b.1 (view e)) (fun _ _ a b => no3 fun e => kTup a.1 b.1 (view e))
  (fun f _ a => no3 fun e => kCall c f a.2.1 (view e)) (fun _ a => no3 fun e => kLst a.2.1 (view e)) (fun _ a => no3 fun e => kDict a.2.2 (view e))
  (fun _ => false, fun es => es.isEmpty, fun ks vs => ks.isEmpty && vs.isEmpty) (fun k _ _ a r => (fun _ => false, kCons a.1 r.2.1, kPair k a.1 r.2.2)) ie
noncomputable abbrev chkE (c : Ck) (ie : IE) : Expr → Bool := (chk3 c ie).1
noncomputable abbrev chkA (c : Ck) (ie : IE) : List Expr → Bool := (chk3 c ie).2.1
noncomputable abbrev chkP (c : Ck) (ie : IE) : List (Option Expr) → List Expr → Bool := (chk3 c ie).2.2

structure Cx where
  w : World
  dp : Nat
  un : Nat
  gd : Option (List Code)
  cn : Str
  cs : Scope
  L : Addr
  a : Addr
  cd : Value
  cl : List (Str × Addr)
  outer : List Env
  A₀ : Around
  base : Heap
  h₀ : Heap
  loose : List Str
  mean : ExcName → Option Value
  mg : Str → Option Value
  mb : Str → Option Value
abbrev Cx.env (c : Cx) : Env := envOf c.cn c.cs c.L c.a c.cd
abbrev Cx.A (c : Cx) : Around := ktrTop c.dp c.un c.gd c.cn c.cs c.L c.a c.cd c.cl c.outer
abbrev NoE : Value → Shared → Prop := fun _ _ => False
structure Cx.Ok (c : Cx) (n : Nat) : Prop where
  below : Below c.A₀ c.base c.outer c.h₀
  ins : (hd.heap_39 c.w.params).In c.h₀
  top : Top hd.view_39 c.loose c.mean c.mg c.mb c.h₀
  kind : c.cs.kind = .function
  room : c.dp + (n + 9) < recursionLimit
  units : c.un + 8 * (n + 9) < cLine
/-- what is known at the end of an evaluation -/
abbrev RK (c : Cx) (m : Str → Option Value) (g : LedT) (s : Shared) (K : SV → Prop) (Q : Value → Shared → Prop) : Prop :=
  ∀ v h tk g' sv, Fr c.h₀ c.L h m → News c.h₀ c.L h g' → Sub g g' → K sv → VR c.w g' sv v → Q v { s with heap := h, toks := tk }
/-- a call of the def at f is as T says -/
noncomputable def FSpec (w : World) (f : Addr) (dep : Nat) (T : FnT) : Prop :=
  ∀ (args : List SV) (K : SV → Prop), T args K → ∀ (c : Cx) (m : Str → Option Value) (s : Shared) (g : LedT) (vs : List Value) (Q : Value → Shared → Prop), c.w = w →
    Below c.A₀ c.base c.outer c.h₀ → (hd.heap_39 c.w.params).In c.h₀ → Top hd.view_39 c.loose c.mean c.mg c.mb c.h₀ → c.cs.kind = .function → c.dp + dep < recursionLimit → c.un + 8 * dep < cLine →
    Fr c.h₀ c.L s.heap m → News c.h₀ c.L s.heap g → VRs c.w g args vs → RK c m g s K Q → wpAny (model PRG c.w) c.A (call (.ref f) vs) Q NoE s
structure Ctx (c : Cx) (ns : List Str) (n : Nat) (Γ : Nat → FnT) : Prop where
  ok : c.Ok n
  loc : ∀ x ∈ ns, locOk c.cs x = true
  fns : ∀ f, f < n → FSpec c.w (fadr f) (f + 10) (Γ f)
  nsI : ∀ f, f < n → nsIn (hd.heap_39 c.w.params) mainGlobals (fnam f) = some (some (.ref (fadr f)))
  kpI : ∀ f, f < n → keepIn (hd.heap_39 c.w.params) (.ref (fadr f)) = true
  glI : ∀ k, k < 2 → ∃ t, nsIn (hd.heap_39 c.w.params) mainGlobals (gnam k) = some (some (.int (gval k) t))
  blI : ∀ k, k < 3 → nsIn (hd.heap_39 c.w.params) mainGlobals (bnam k) = some none
noncomputable def EvS (c : Cx) (ns : List Str) (ρ : List SV) (e : Expr) (K : SV → Prop) : Prop :=
  ∀ (m : Str → Option Value) (Q : Value → Shared → Prop) (s : Shared) (g : LedT), Fr c.h₀ c.L s.heap m → News c.h₀ c.L s.heap g → EnvR c.w g m ns ρ → RK c m g s K Q → wpAny (model PRG c.w) c.A (eval e c.env) Q NoE s
noncomputable def TrS (c : Cx) (ns : List Str) (ρ : List SV) (e : Expr) (K : SV → Prop) : Prop :=
  ∀ (m : Str → Option Value) (Q : Bool → Shared → Prop) (s : Shared) (g : LedT), Fr c.h₀ c.L s.heap m → News c.h₀ c.L s.heap g → EnvR c.w g m ns ρ →
    (∀ b h tk g', Fr c.h₀ c.L h m → News c.h₀ c.L h g' → Sub g g' → K (.bool b) → Q b { s with heap := h, toks := tk }) → wpAny (model PRG c.w) c.A (isTrue e c.env (eval e c.env)) Q NoE s
noncomputable def ArS (c : Cx) (ns : List Str) (ρ : List SV) (es : List Expr) (K : SV → Prop) : Prop :=
  ∀ (p : Pos) (m : Str → Option Value) (Q : List Value → Shared → Prop) (s : Shared) (g : LedT), Fr c.h₀ c.L s.heap m → News c.h₀ c.L s.heap g → EnvR c.w g m ns ρ →
    (∀ vs h tk g' ch, Fr c.h₀ c.L h m → News c.h₀ c.L h g' → Sub g g' → K ch → VRs c.w g' (toL ch) vs → vs.length = es.length → Q vs { s with heap := h, toks := tk }) → wpAny (model PRG c.w) c.A (spliced (backTo p (starEach es c.env))) Q NoE s
noncomputable def PrS (c : Cx) (ns : List Str) (ρ : List SV) (ks : List (Option Expr)) (vs : List Expr) (K : SV → Prop) : Prop :=
  ∀ (p : Pos) (m : Str → Option Value) (Q : List (Value × Value) → Shared → Prop) (s : Shared) (g : LedT), Fr c.h₀ c.L s.heap m → News c.h₀ c.L s.heap g → EnvR c.w g m ns ρ →
    (∀ ps h tk g' ch, Fr c.h₀ c.L h m → News c.h₀ c.L h g' → Sub g g' → K ch → allStrKeys ps = true → ((dkeys ch).all (fun k => decide (k < 13)) = true → VRK c.w g' ch (strPairs ps)) → (strPairs ps).map (·.1) = (dkeys ch).map strTab → Q ps { s with heap := h, toks := tk }) →
    wpAny (model PRG c.w) c.A (evalPairs (pairTrees ks vs c.env p)) Q NoE s
theorem onU_iff {K : SV → Prop} {s : SV} : onU K s ↔ s ≠ .undef ∧ K s := by
  constructor
  · intro h
    exact ⟨fun e => by rw [e] at h; exact h, by cases s <;> first | exact h | exact h.elim⟩
  · rintro ⟨h, k⟩; cases s <;> first | exact k | exact absurd rfl h
theorem kindOf_env (cn : Str) (cs : Scope) (L a : Addr) (cd : Value) (x : Str) : (envOf cn cs L a cd).kindOf x = (envOf (Str.ofString "") cs 0 0 .none).kindOf x := rfl
theorem units64 {c : Cx} {n : Nat} (O : c.Ok n) : c.A.units + 64 < cLine := Nat.lt_of_le_of_lt (Nat.add_le_add_left (show 8 * 8 ≤ 8 * (n + 9) from Nat.mul_le_mul_left 8 (Nat.le_trans (by decide) (Nat.le_add_left 9 n))) _) O.units
section
variable {c : Cx} {m : Str → Option Value} {s : Shared} {g : LedT} {p : Pos} {x : Str} {v : Value} {Q : Value → Shared → Prop}
theorem loc_parts {cs : Scope} (hx : locOk cs x = true) : cs.kind = .function ∧ (envOf c.cn cs c.L c.a c.cd).kindOf x = some .local ∧ (x == ("__debug__" : Str)) = false :=
  ⟨of_decide_eq_true (and3 (and3 hx).1).1, of_decide_eq_true (and3 (and3 hx).1).2, bnot (and3 hx).2⟩
theorem glob_parts {cs : Scope} (hx : globOk cs x = true) : cs.kind = .function ∧ (envOf c.cn cs c.L c.a c.cd).kindOf x = some .globalImplicit ∧ (x == ("__debug__" : Str)) = false :=
  ⟨of_decide_eq_true (and3 (and3 hx).1).1, of_decide_eq_true (and3 (and3 hx).1).2, bnot (and3 hx).2⟩
theorem ld_loc (hx : locOk c.cs x = true) (F : Fr c.h₀ c.L s.heap m) (hv : m x = some v) (h : Q v s) : wpAny (model PRG c.w) c.A (eval (.Name x p) c.env) Q NoE s :=
  ld F hv h (loc_parts (c := c) hx).1 (loc_parts (c := c) hx).2.1 (loc_parts (c := c) hx).2.2
theorem ld_glob {n : Nat} (O : c.Ok n) (hx : globOk c.cs x = true) (F : Fr c.h₀ c.L s.heap m) (hn : nsIn (hd.heap_39 c.w.params) mainGlobals x = some (some v)) (h : Q v s) : wpAny (model PRG c.w) c.A (eval (.Name x p) c.env) Q NoE s :=
  nameX_K (cl := []) F O.ins (topRead_of O.top) hn h (glob_parts (c := c) hx).1 (glob_parts (c := c) hx).2.1 (glob_parts (c := c) hx).2.2
theorem ld_blt {n : Nat} (O : c.Ok n) (hx : globOk c.cs x = true) (F : Fr c.h₀ c.L s.heap m) (hn : nsIn (hd.heap_39 c.w.params) mainGlobals x = some none) (hb : bootBuiltins x = some v) (hne : x ≠ "__name__") (h : Q v s) : wpAny (model PRG c.w) c.A (eval (.Name x p) c.env) Q NoE s :=
  nameX_B (cl := []) F O.ins (topRead_of O.top) hn hb hne h (glob_parts (c := c) hx).1 (glob_parts (c := c) hx).2.1 (glob_parts (c := c) hx).2.2
end
theorem star_cons {x : Expr} {xs : List Expr} {env : Env} (h : isStar x = false) : starEach (x :: xs) env = (false, eval x env) :: starEach xs env := by
  cases x <;> first | rfl | cases h
theorem chkA_inv {c : Ck} {ie : IE} {es : List Expr} (h : chkA c ie es = true) : (ie = .anil ∧ es = []) ∨ ∃ k e r x xs, ie = .acons k e r ∧ es = x :: xs ∧ isStar x = false ∧ chkE c e x = true ∧ chkA c r xs = true := by
  cases ie <;> first | exact absurd h Bool.noConfusion | skip
  · exact .inl ⟨rfl, List.isEmpty_iff.mp h⟩
  · cases es with
    | nil => cases h
    | cons x xs => exact .inr ⟨_, _, _, x, xs, rfl, rfl, bnot (and3 h).1, (and3 (and3 h).2).1, (and3 (and3 h).2).2⟩
theorem star_plain {c : Ck} {env : Env} {p : Pos} : ∀ {es : List Expr} {ie : IE}, chkA c ie es = true → (backTo p (starEach es env)).any (·.1) = false
  | [], _, _ => rfl
  | x :: xs, ie, h => by
    rcases chkA_inv h with ⟨_, h⟩ | ⟨k, e, r, x', xs', _, he, hx, _, hr⟩
    · cases h
    · cases he
      have := star_plain (env := env) (p := p) hr
      rw [star_cons hx]
      show (false || (backTo p (starEach xs env)).any (·.1)) = false
      rw [this]; rfl
theorem noPy {x y : Int} (h : y.natAbs < 1099511627776) : Builtin.divisionGoesByPylong x y = false := by
  refine PyProof.noPylong_of_log2 ?_
  by_cases h0 : y.natAbs = 0
  · rw [h0]; decide +kernel
  · exact Nat.lt_of_lt_of_le ((Nat.log2_lt h0).mpr (show y.natAbs < 2 ^ 40 from h)) (by decide)

section
open PySem.Calls PyProof.V
variable {c : Cx} {ns : List Str} {n : Nat} {Γ : Nat → FnT} {ρ : List SV}
theorem s_int {i : Int} {k : Nat} {p : Pos} {K : SV → Prop} (h : K (.int i)) : EvS c ns ρ (.Constant (.int i) k p) K := fun m Q s g F N R kk => wpAny_Constant_int (kk _ _ _ g _ F N .refl h ⟨_, rfl⟩)
theorem s_bool {b : Bool} {k : Nat} {p : Pos} {K : SV → Prop} (h : K (.bool b)) : EvS c ns ρ (.Constant (.bool b) k p) K := fun m Q s g F N R kk => Constant_bool (kk _ s.heap s.toks g _ F N .refl h rfl)
theorem s_none {k : Nat} {p : Pos} {K : SV → Prop} (h : K .none) : EvS c ns ρ (.Constant .none k p) K := fun m Q s g F N R kk => Constant_none (kk _ s.heap s.toks g _ F N .refl h rfl)
theorem s_str {i k : Nat} {p : Pos} {K : SV → Prop} (hk : i < 13) (h : K (.str i)) : EvS c ns ρ (.Constant (.str (strTab i)) k p) K := fun m Q s g F N R kk => PySem.Calls.Constant_str (kk _ _ _ g _ F N .refl h ⟨hk, _, rfl⟩)
theorem s_var {i : Nat} {p : Pos} {K : SV → Prop} (hloc : ∀ x ∈ ns, locOk c.cs x = true) (hi : i < ns.length) (h : onU K (look ρ i)) : EvS c ns ρ (.Name (nameAt ns i) p) K := fun m Q s g F N R kk => by
  obtain ⟨hu, hK⟩ := onU_iff.mp h
  obtain ⟨v, hv, hr⟩ := EnvG.look R hu
  exact ld_loc (hloc _ (nameAt_mem hi)) F hv (kk _ s.heap s.toks g _ F N .refl hK hr)
theorem s_gint {k : Nat} {p : Pos} {K : SV → Prop} (C : Ctx c ns n Γ) (hk : k < 2) (hx : globOk c.cs (gnam k) = true) (h : K (.int (gval k))) : EvS c ns ρ (.Name (gnam k) p) K := fun m Q s g F N R kk => by
  obtain ⟨t, ht⟩ := C.glI k hk
  exact ld_glob C.ok hx F ht (kk _ s.heap s.toks g _ F N .refl h ⟨t, rfl⟩)
theorem onT_iff {K : SV → SV → Prop} {s : SV} : onT K s ↔ ∃ a b, s = .tup a b ∧ K a b := by
  constructor
  · intro h; cases s <;> first | exact ⟨_, _, rfl, h⟩ | exact h.elim
  · rintro ⟨a, b, rfl, h⟩; exact h
theorem onB_iff {K : Bool → Prop} {s : SV} : onB K s ↔ ∃ b, s = .bool b ∧ K b := by
  constructor
  · intro h; cases s <;> first | exact ⟨_, rfl, h⟩ | exact h.elim
  · rintro ⟨b, rfl, h⟩; exact h
theorem onI_iff {K : Int → Prop} {s : SV} : onI K s ↔ ∃ b, s = .int b ∧ K b := by
  constructor
  · intro h; cases s <;> first | exact ⟨_, rfl, h⟩ | exact h.elim
  · rintro ⟨b, rfl, h⟩; exact h
theorem onS_iff {K : Nat → Prop} {s : SV} : onS K s ↔ ∃ b, s = .str b ∧ K b := by
  constructor
  · intro h; cases s <;> first | exact ⟨_, rfl, h⟩ | exact h.elim
  · rintro ⟨b, rfl, h⟩; exact h
theorem onF_iff {K : SV → Prop} {s : SV} : onF K s ↔ ∃ b, s = .fdct b ∧ K b := by
  constructor
  · intro h; cases s <;> first | exact ⟨_, rfl, h⟩ | exact h.elim
  · rintro ⟨b, rfl, h⟩; exact h
theorem onL_iff {K : List Int → Prop} {s : SV} : onL K s ↔ ∃ b, s = .ints b ∧ K b := by
  constructor
  · intro h; cases s <;> first | exact ⟨_, rfl, h⟩ | exact h.elim
  · rintro ⟨b, rfl, h⟩; exact h
theorem onZ_iff {K : Prop} {s : SV} : onZ K s ↔ s = .none ∧ K := by
  constructor
  · intro h; cases s <;> first | exact ⟨rfl, h⟩ | exact h.elim
  · rintro ⟨rfl, h⟩; exact h
theorem int2_iff {K : Int → Int → Prop} {a b : SV} (h : int2 K a b) : ∃ i j, a = .int i ∧ b = .int j ∧ K i j := by
  obtain ⟨i, ei, h1⟩ := onI_iff.mp (show onI _ a from h)
  obtain ⟨j, ej, h2⟩ := onI_iff.mp h1
  exact ⟨i, j, ei, ej, h2⟩
theorem int2_elim {w : World} {g : LedT} {K : Int → Int → Prop} {sa sb : SV} {va vb : Value} {P : Value → Value → Prop} (hK : int2 K sa sb) (ha : VR w g sa va) (hb : VR w g sb vb) (k : ∀ i j t u, K i j → P (.int i t) (.int j u)) : P va vb := by
  obtain ⟨i, j, rfl, rfl, hK⟩ := int2_iff hK
  obtain ⟨t, rfl⟩ := ha; obtain ⟨u, rfl⟩ := hb
  exact k i j t u hK
theorem addS_elim {w : World} {g : LedT} {K : SV → Prop} {sa sb : SV} {va vb : Value} {P : Value → Value → Prop} (hK : addS K sa sb) (ha : VR w g sa va) (hb : VR w g sb vb) (k : ∀ i j t u, K (.int (i + j)) → P (.int i t) (.int j u))
    (k2 : ∀ l l' ra rb vs ws na nb, l.length + l'.length ≤ 64 → K (.ints (l ++ l')) → (ra, W.listOf (vs : List Value).toArray na) ∈ g → (rb, W.listOf (ws : List Value).toArray nb) ∈ g → IntsAre vs l → IntsAre ws l' → P (.ref ra) (.ref rb)) : P va vb := by
  cases sa <;> first | exact hK.elim | skip
  · obtain ⟨_, rfl, hK⟩ := onI_iff.mp hK
    obtain ⟨t, rfl⟩ := ha; obtain ⟨u, rfl⟩ := hb
    exact k _ _ _ _ hK
  · obtain ⟨_, rfl, hK⟩ := onL_iff.mp hK
    obtain ⟨ra, vs, na, rfl, hma, hia⟩ := ha; obtain ⟨rb, ws, nb, rfl, hmb, hib⟩ := hb
    exact k2 _ _ _ _ _ _ _ _ hK.1 hK.2 hma hmb hia hib
section
variable {prog : Program} {w : World} {A : Around} {E : Value → Shared → Prop} {s : Shared} {h₀ : Heap} {L a : Addr} {nl : LedT} {v0 v1 : Value} {value slice : Expr} {u : Tok} {Q : Value → Shared → Prop}
theorem tup_it0 (N : News h₀ L s.heap nl) (hm : (a, tup2 v0 v1) ∈ nl) (h : Q v0 s) (hs : subscripted slice false (.ref a) (.int 0 u) = operate [.ref a, .int 0 u] (getItem (.ref a) (.int 0 u))) : wpAny (model prog w) A (subscriptTail value slice (.ref a) (.int 0 u)) Q E s :=
  item_tupleT (l := [v0, v1]) (News.isTup N hm) (by decide) (by decide) rfl rfl h hs
theorem tup_it1 (N : News h₀ L s.heap nl) (hm : (a, tup2 v0 v1) ∈ nl) (h : Q v1 s) (hs : subscripted slice false (.ref a) (.int 1 u) = operate [.ref a, .int 1 u] (getItem (.ref a) (.int 1 u))) : wpAny (model prog w) A (subscriptTail value slice (.ref a) (.int 1 u)) Q E s :=
  item_tupleT (l := [v0, v1]) (News.isTup N hm) (by decide) (by decide) rfl rfl h hs
end
theorem s_it0 {e : Expr} {k : Nat} {p p1 : Pos} {K : SV → Prop} (h : EvS c ns ρ e (onT fun a _ => K a)) : EvS c ns ρ (.Subscript e (.Constant (.int 0) k p1) p) K := fun m Q s g F N R kk =>
  Subscript_ (h m _ s g F N R fun v h' tk g' sv F' N' hs hK hv => by
    obtain ⟨sa, sb, rfl, hK⟩ := onT_iff.mp hK
    obtain ⟨r, va, vb, rfl, hm, h1, h2⟩ := hv
    exact wpAny_Constant_int (tup_it0 (s := { s with heap := h', toks := _ }) N' hm (kk _ _ _ g' _ F' N' hs hK h1) rfl))
theorem s_it1 {e : Expr} {k : Nat} {p p1 : Pos} {K : SV → Prop} (h : EvS c ns ρ e (onT fun _ b => K b)) : EvS c ns ρ (.Subscript e (.Constant (.int 1) k p1) p) K := fun m Q s g F N R kk =>
  Subscript_ (h m _ s g F N R fun v h' tk g' sv F' N' hs hK hv => by
    obtain ⟨sa, sb, rfl, hK⟩ := onT_iff.mp hK
    obtain ⟨r, va, vb, rfl, hm, h1, h2⟩ := hv
    exact wpAny_Constant_int (tup_it1 (s := { s with heap := h', toks := _ }) N' hm (kk _ _ _ g' _ F' N' hs hK h2) rfl))
theorem dget_val {w : World} {g : LedT} {e : SV} {ws : List (Str × Value)} {j : Nat} (hj : j < 13) (h : VRK w g e ws) (hu : dget e j ≠ .undef) : ∃ v, valueAt ws (strTab j) = some v ∧ VR w g (dget e j) v := by
  induction e generalizing ws with
  | dnil => exact absurd rfl hu
  | dcons k x r _ ih =>
    obtain ⟨v, rest, rfl, hk, h1, h2⟩ := h
    have hv : valueAt ((strTab k, v) :: rest) (strTab j) = bif strTab k == strTab j then some v else valueAt rest (strTab j) := by
      show Option.map (fun x : Str × Value => x.2) (List.find? _ _) = bif decide (strTab k = strTab j) then some v else _
      rw [List.find?_cons]
      dsimp only
      cases decide (strTab k = strTab j) <;> rfl
    have hd : dget (.dcons k x r) j = bif k == j then x else dget r j := rfl
    rw [hv, strTab_eq hk hj]
    rw [hd] at hu ⊢
    revert hu
    cases k == j with
    | true => exact fun _ => ⟨v, rfl, h1⟩
    | false => exact ih h2
  | _ => exact h.elim
end
section
open PySem.Calls PyProof.V
variable {c : Cx} {ns : List Str} {n : Nat} {Γ : Nat → FnT} {ρ : List SV}
theorem sub_slice {i : Expr} {d : Addr} {key : Value} (h : isSlice i = false) : subscripted i false (.ref d) key = operate [.ref d, key] (getItem (.ref d) key) := by
  cases i <;> first | rfl | cases h
theorem s_key {d i : Expr} {p : Pos} {K : SV → Prop} {P : SV → Prop} (hi : isSlice i = false) (h : EvS c ns ρ d (onF P)) (h2 : ∀ e, P e → EvS c ns ρ i (onS fun j => onU K (dget e j))) : EvS c ns ρ (.Subscript d i p) K := fun m Q s g F N R kk =>
  Subscript_ (h m _ s g F N R fun v h' tk g' sv F' N' hs hK hv => by
    obtain ⟨e, rfl, hP⟩ := onF_iff.mp hK
    obtain ⟨r, o, ws, rfl, hm, hl, hd, hk⟩ := hv
    refine h2 e hP m _ { s with heap := h', toks := tk } g' F' N' (R.mono hs) fun v2 h2' tk2 g2 sv2 F2 N2 hs2 hK2 hv2 => ?_
    obtain ⟨j, rfl, hU⟩ := onS_iff.mp hK2
    obtain ⟨hj, t, rfl⟩ := hv2
    obtain ⟨hu, hK3⟩ := onU_iff.mp hU
    obtain ⟨x, hx, hr⟩ := dget_val hj hk hu
    have D : (h2' : Heap).DictOf (KND c.w) r ws := Heap.dictOf_iff.mpr ⟨o, (N2 _ (hs2 _ hm)).1, hd⟩
    exact tail_any (s := { s with heap := h2', toks := tk2 }) D.typeIs slot_dict_getitem.lookup (wpAny_getItem_of (knd := KND c.w) (strKind_is _ _ _ _) D.mapOf hx (kk _ _ _ g2 _ F2 N2 (hs.trans hs2) hK3 (hr.mono hs2))) (sub_slice hi))
theorem s_neg {e : Expr} {p : Pos} {K : SV → Prop} (h : EvS c ns ρ e (onI fun n => K (.int (-n)))) : EvS c ns ρ (.UnaryOp .USub e p) K := fun m Q s g F N R kk =>
  UnaryOp_ (h m _ s g F N R fun v h' tk g' sv F' N' hs hK hv => by
    obtain ⟨i, rfl, hK⟩ := onI_iff.mp hK
    obtain ⟨t, rfl⟩ := hv
    exact PyProof.Rows.neg_int (s := { s with heap := h', toks := tk }) (kk _ _ _ g' _ F' N' hs hK ⟨_, rfl⟩))
theorem s_not {e : Expr} {p : Pos} {K : SV → Prop} (h : EvS c ns ρ e (onB fun b => K (.bool (!b)))) : EvS c ns ρ (.UnaryOp .Not e p) K := fun m Q s g F N R kk =>
  UnaryOp_ (h m _ s g F N R fun v h' tk g' sv F' N' hs hK hv => by
    obtain ⟨i, rfl, hK⟩ := onB_iff.mp hK
    subst hv
    exact not_of (wpAny_truthy_bool (kk _ _ _ g' _ F' N' hs hK rfl)))
/-- two expressions, one behind the other -/
theorem ev2 {l r : Expr} {P : SV → Prop} {K2 : SV → SV → Prop} (h1 : EvS c ns ρ l P) (h2 : ∀ sa, P sa → EvS c ns ρ r (K2 sa)) (m : Str → Option Value) (Q : Value → Value → Shared → Prop) (s : Shared) (g : LedT) (F : Fr c.h₀ c.L s.heap m) (N : News c.h₀ c.L s.heap g) (R : EnvR c.w g m ns ρ)
    (kk : ∀ va vb h tk g' sa sb, Fr c.h₀ c.L h m → News c.h₀ c.L h g' → Sub g g' → K2 sa sb → VR c.w g' sa va → VR c.w g' sb vb → Q va vb { s with heap := h, toks := tk }) :
    wpAny (model PRG c.w) c.A (eval l c.env) (fun a s₁ => wpAny (model PRG c.w) c.A (eval r c.env) (fun b s₂ => Q a b s₂) NoE s₁) NoE s :=
  h1 m _ s g F N R fun va h' tk g' sa F' N' hs hP hv => h2 sa hP m _ { s with heap := h', toks := tk } g' F' N' (R.mono hs) fun vb h2' tk2 g2 sb F2 N2 hs2 hK hv2 =>
    kk va vb h2' tk2 g2 sa sb F2 N2 (hs.trans hs2) hK (hv.mono hs2) hv2
theorem mulOk {i j : Int} (h : i.natAbs < 1099511627776) : IntMulOk i j := by
  refine IntMulOk.of_left ?_
  unfold Builtin.Int.intBits
  by_cases h0 : i = 0
  · subst h0; decide
  · rw [if_neg (by simpa using h0)]
    have := (Nat.log2_lt (show i.natAbs ≠ 0 by omega)).mpr (show i.natAbs < 2 ^ 40 from h)
    omega
theorem news_list {h₀ h : Heap} {L l : Addr} {nl : LedT} {vs : List Value} {n : Nat} (N : News h₀ L h nl) (hm : (l, W.listOf vs.toArray n) ∈ nl) : h.IsList l vs.toArray := ⟨_, (N _ hm).1, rfl, n, rfl⟩
theorem nabs_lt {j : Int} (h : 0 < j) (k : j < 1099511627776) : j.natAbs < 1099511627776 := Int.ofNat_lt.mp (by rw [Int.natAbs_of_nonneg (Int.le_of_lt h)]; exact k)
theorem v_bin {m : Str → Option Value} {s : Shared} {g : LedT} {K : SV → Prop} {Q : Value → Shared → Prop} {sa sb : SV} {va vb : Value} {op : Op2} {o : Operator} (ho : arOf op = some o) (F : Fr c.h₀ c.L s.heap m) (N : News c.h₀ c.L s.heap g) (hK : biS op sa sb K) (ha : VR c.w g sa va) (hb : VR c.w g sb vb) (kk : RK c m g s K Q) : wpAny (model PRG c.w) c.A (binaryOp o va vb) Q NoE s :=
  have k1 : ∀ (z : Int) t tk, K (.int z) → Q (.int z t) { s with toks := tk } := fun z t tk h => kk _ s.heap tk g _ F N .refl h ⟨t, rfl⟩
  arOf_elim (P := fun op o => biS op sa sb K → wpAny (model PRG c.w) c.A (binaryOp o va vb) Q NoE s)
    (fun hK => addS_elim (P := fun va vb => wpAny (model PRG c.w) c.A (binaryOp .Add va vb) Q NoE s) hK ha hb (fun _ _ _ _ h => PyProof.Rows.add_int (k1 _ _ _ h)) fun _ _ _ _ _ _ _ _ h1 h2 hma hmb hia hib => add_lists_ints F N (news_list N hma) (news_list N hmb) hia hib (fun _ F2 N2 hi2 => kk _ _ _ _ _ F2 N2 Sub.refl.consR h2 ⟨_, _, 0, rfl, .head _, hi2⟩) (by rw [PySem.sizeLine_eq]; exact Nat.le_trans h1 (by decide)))
    (fun hK => int2_elim (P := fun va vb => wpAny (model PRG c.w) c.A (binaryOp .Sub va vb) Q NoE s) hK ha hb fun _ _ _ _ h => PyProof.Rows.sub_int (k1 _ _ _ h))
    (fun hK => int2_elim (P := fun va vb => wpAny (model PRG c.w) c.A (binaryOp .Mult va vb) Q NoE s) hK ha hb fun _ _ _ _ h => PyProof.Rows.mul_int (k1 _ _ _ h.2) (mulOk h.1.1))
    (fun hK => int2_elim (P := fun va vb => wpAny (model PRG c.w) c.A (binaryOp .FloorDiv va vb) Q NoE s) hK ha hb fun i j _ _ h => PyProof.Rows.floordiv_int (Int.ne_of_gt h.1.1) (by rw [Int.fdiv_eq_ediv_of_nonneg _ (Int.le_of_lt h.1.1)]; exact k1 _ _ _ h.2) (Or.inl (noPy (nabs_lt h.1.1 h.1.2))))
    (fun hK => int2_elim (P := fun va vb => wpAny (model PRG c.w) c.A (binaryOp .Mod va vb) Q NoE s) hK ha hb fun i j _ _ h => PyProof.Rows.mod_int' (Int.ne_of_gt h.1) (by rw [Int.fmod_eq_emod_of_nonneg _ (Int.le_of_lt h.1)]; exact k1 _ _ _ h.2)) ho hK
theorem s_bin {op : Op2} {o : Operator} {l r : Expr} {p : Pos} {K : SV → Prop} {P : SV → Prop} (ho : arOf op = some o) (h1 : EvS c ns ρ l P) (h2 : ∀ sa, P sa → EvS c ns ρ r fun sb => biS op sa sb K) : EvS c ns ρ (.BinOp l o r p) K := fun m Q s g F N R kk =>
  wpAny_BinOp (ev2 h1 h2 m _ s g F N R fun va vb h' tk g' sa sb F' N' hs hK hva hvb => v_bin (s := { s with heap := h', toks := tk }) ho F' N' hK hva hvb fun v h2 tk2 g2 sv F2 N2 hs2 => kk v h2 tk2 g2 sv F2 N2 (hs.trans hs2))
end

section
open PySem.Calls PyProof.V PySem.Spec PySem.SeqAt
noncomputable def pd : SV → PyData
  | .int n => .int n
  | .tup a b => .tuple [pd a, pd b]
  | _ => .none
theorem dat_no {k : Nat} {a : SV} {P : Prop} (h : isDat k a = true) (h0 : isDat 0 a = false) (h1 : ∀ j, isDat (j + 1) a = false) : P := by
  cases k with
  | zero => exact bad h h0
  | succ j => exact bad h (h1 j)
theorem dat_tup {k : Nat} {x y : SV} (h : isDat k (.tup x y) = true) : ∃ j, k = j + 1 ∧ isDat j x = true ∧ isDat j y = true := by
  cases k with
  | zero => exact bad h rfl
  | succ j => exact ⟨j, rfl, and3 h⟩
theorem dat_cases {k : Nat} {a : SV} (h : isDat k a = true) : a = .none ∨ (∃ n, a = .int n) ∨ ∃ x y, a = .tup x y := by
  cases a with
  | none => exact .inl rfl
  | int n => exact .inr (.inl ⟨n, rfl⟩)
  | tup x y => exact .inr (.inr ⟨x, y, rfl⟩)
  | _ => exact dat_no h rfl fun _ => rfl
theorem pd_eqv {k l : Nat} {a b : SV} (h1 : isDat k a = true) (h2 : isDat l b = true) : PyData.eqv (pd a) (pd b) = eqD a b := by
  have tt : ∀ a b c d : PyData, PyData.eqv (.tuple [a, b]) (.tuple [c, d]) = (PyData.eqv a c && (PyData.eqv b d && true)) := by
    intro a b c d
    simp only [PyData.eqv, PyData.eqvAll]
  induction a generalizing k l b with
  | none =>
    rcases dat_cases h2 with rfl | ⟨n, rfl⟩ | ⟨x, y, rfl⟩
    · show PyData.eqv .none .none = true; simp only [PyData.eqv]
    · show PyData.eqv .none (.int n) = false; simp only [PyData.eqv]
    · show PyData.eqv .none (.tuple [pd x, pd y]) = false; simp only [PyData.eqv]
  | int q =>
    rcases dat_cases h2 with rfl | ⟨n, rfl⟩ | ⟨x, y, rfl⟩
    · show PyData.eqv (.int q) .none = false; simp only [PyData.eqv]
    · show PyData.eqv (.int q) (.int n) = decide (q = n); simp only [PyData.eqv]; rfl
    · show PyData.eqv (.int q) (.tuple [pd x, pd y]) = false; simp only [PyData.eqv]
  | tup x y ih1 ih2 =>
    rcases dat_cases h2 with rfl | ⟨n, rfl⟩ | ⟨u, v, rfl⟩
    · show PyData.eqv (.tuple [pd x, pd y]) .none = false; simp only [PyData.eqv]
    · show PyData.eqv (.tuple [pd x, pd y]) (.int n) = false; simp only [PyData.eqv]
    · have ⟨_, _, a1, a2⟩ := dat_tup h1
      have ⟨_, _, b1, b2⟩ := dat_tup h2
      exact (tt _ _ _ _).trans (by rw [ih1 a1 b1, ih2 a2 b2, Bool.and_true]; rfl)
  | _ => exact dat_no h1 rfl fun _ => rfl
theorem pd_lay {k : Nat} {a : SV} (h : isDat k a = true) : (pd a).canLay0 = true ∧ (pd a).depth ≤ k := by
  induction a generalizing k with
  | none => exact ⟨by show PyData.canLay0 .none = _; simp only [PyData.canLay0], by show PyData.depth .none ≤ _; simp only [PyData.depth]; exact Nat.zero_le _⟩
  | int _ => exact ⟨by show PyData.canLay0 (.int _) = _; simp only [PyData.canLay0], by show PyData.depth (.int _) ≤ _; simp only [PyData.depth]; exact Nat.zero_le _⟩
  | tup x y ih1 ih2 =>
    obtain ⟨j, rfl, a1, a2⟩ := dat_tup h
    have b1 := ih1 a1
    have b2 := ih2 a2
    exact ⟨by show PyData.canLay0 (.tuple [pd x, pd y]) = _; simp only [PyData.canLay0, PyData.canLayAll0, b1.1, b2.1, Bool.and_self], by show PyData.depth (.tuple [pd x, pd y]) ≤ _; simp only [PyData.depth, PyData.depthAll]; exact Nat.succ_le_succ (Nat.max_le.mpr ⟨b1.2, Nat.max_le.mpr ⟨b2.2, Nat.zero_le _⟩⟩)⟩
  | _ => exact dat_no h rfl fun _ => rfl
theorem pd_shaped {k : Nat} {a : SV} (hk : k ≤ 64) (h : isDat k a = true) : shaped (pd a) = true := by
  have := pd_lay h
  unfold shaped
  rw [this.1, decide_eq_true (Nat.le_trans this.2 hk)]; rfl
theorem pd_reads {w : World} {h₀ h : Heap} {L : Addr} {g : LedT} (N : News h₀ L h g) {k : Nat} {a : SV} {v : Value} (hd : isDat k a = true) (hv : VR w g a v) : ∃ as, Reads h v (pd a) as := by
  induction a generalizing k v with
  | none => obtain rfl := hv; exact ⟨_, .none⟩
  | int n => obtain ⟨t, rfl⟩ := hv; exact ⟨_, .int n t⟩
  | tup x y ih1 ih2 =>
    obtain ⟨j, _, a1, a2⟩ := dat_tup hd
    obtain ⟨r, va, vb, rfl, hm, h1, h2⟩ := hv
    obtain ⟨as, r1⟩ := ih1 a1 h1
    obtain ⟨bs, r2⟩ := ih2 a2 h2
    exact ⟨_, .tuple (N _ hm).1 rfl rfl (.cons r1 (.cons r2 .nil))⟩
  | _ => exact dat_no hd rfl fun _ => rfl
variable {c : Cx} {ns : List Str} {n : Nat} {Γ : Nat → FnT} {ρ : List SV}
theorem marksF {op : CmpOp} (h : (op == .In || op == .NotIn) = false) (r : Expr) : behindInMarks op r = false := by
  cases r <;> first | rfl | (show (_ && (op == .In || op == .NotIn) && _) = false; rw [h, Bool.and_false, Bool.false_and])
theorem cm_marks {op : Op2} {o : CmpOp} (ho : cmOf op = some o) (r : Expr) : behindInMarks o r = false :=
  cmOf_elim (P := fun _ o => behindInMarks o r = false) (marksF rfl r) (marksF rfl r) (marksF rfl r) (marksF rfl r) (marksF rfl r) (marksF rfl r) (marksF rfl r) (marksF rfl r) ho
section
variable {s : Shared} {g : LedT} {K : Bool → Prop} {Q : Value → Shared → Prop} {sa sb : SV} {va vb : Value}
theorem eqS_elim {K : Bool → Prop} {P : Value → Value → Prop} (N : News c.h₀ c.L s.heap g) (hK : eqS K sa sb) (ha : VR c.w g sa va) (hb : VR c.w g sb vb) (k0 : ∀ p q, K (p == q) → P (.bool p) (.bool q)) (k1 : ∀ i j t u, K (decide (i = j)) → P (.int i t) (.int j u)) (k2 : ∀ x y t u, K (x == y) → P (.str x t) (.str y u))
    (k3 : ∀ va vb x y as bs, K (PyData.eqv x y) → Reads s.heap va x as → Reads s.heap vb y bs → shaped x = true → shaped y = true → P va vb) : P va vb := by
  cases sa <;> first | exact hK.elim | skip
  · obtain ⟨rfl, hK⟩ := onZ_iff.mp hK
    cases ha; cases hb
    exact k3 _ _ .none .none _ _ (by simp only [PyData.eqv]; exact hK) .none .none rfl rfl
  · obtain ⟨q, rfl, hK⟩ := onB_iff.mp hK
    cases ha; cases hb
    exact k0 _ _ hK
  · obtain ⟨j, rfl, hK⟩ := onI_iff.mp hK
    obtain ⟨t, rfl⟩ := ha; obtain ⟨u, rfl⟩ := hb
    exact k1 _ _ _ _ hK
  · obtain ⟨j, rfl, hK⟩ := onS_iff.mp hK
    obtain ⟨hi, t, rfl⟩ := ha; obtain ⟨hj, u, rfl⟩ := hb
    exact k2 _ _ _ _ (by rw [strTab_eq hi hj]; exact hK)
  · obtain ⟨x, y, rfl, hd, hK⟩ := onT_iff.mp hK
    have hd' := Bool.and_eq_true_iff.mp hd
    obtain ⟨as, r1⟩ := pd_reads N hd'.1 ha
    obtain ⟨bs, r2⟩ := pd_reads N hd'.2 hb
    exact k3 _ _ _ _ _ _ (by rw [pd_eqv hd'.1 hd'.2]; exact hK) r1 r2 (pd_shaped (by decide) hd'.1) (pd_shaped (by decide) hd'.2)
theorem v_eq {K : Bool → Prop} (hu : c.A.units + 64 < cLine) (N : News c.h₀ c.L s.heap g) (hK : eqS K sa sb) (ha : VR c.w g sa va) (hb : VR c.w g sb vb) (kk : ∀ b, K b → Q (.bool b) s) : wpAny (model PRG c.w) c.A (compareOp .Eq va vb) Q NoE s :=
  eqS_elim (P := fun va vb => wpAny (model PRG c.w) c.A (compareOp .Eq va vb) Q NoE s) N hK ha hb (fun _ _ h => eq_bool (kk _ h)) (fun _ _ _ _ h => PyProof.Rows.eq_int (kk _ h)) (fun _ _ _ _ h => PyProof.Rows.eq_str (kk _ h)) fun _ _ _ _ _ _ h r1 r2 s1 s2 => eq_dataH r1 r2 s1 s2 hu (kk _ h)
theorem v_ne (hu : c.A.units + 64 < cLine) (N : News c.h₀ c.L s.heap g) (hK : eqS (fun b => K (!b)) sa sb) (ha : VR c.w g sa va) (hb : VR c.w g sb vb) (kk : ∀ b, K b → Q (.bool b) s) : wpAny (model PRG c.w) c.A (compareOp .NotEq va vb) Q NoE s :=
  eqS_elim (P := fun va vb => wpAny (model PRG c.w) c.A (compareOp .NotEq va vb) Q NoE s) N hK ha hb (fun _ _ h => ne_bool (kk _ h)) (fun _ _ _ _ h => PyProof.Rows.ne_int (kk _ h)) (fun _ _ _ _ h => PyProof.Rows.ne_str (kk _ h)) fun _ _ _ _ _ _ h r1 r2 s1 s2 => ne_dataH r1 r2 s1 s2 hu (kk _ h)
end
theorem isS_elim {w : World} {g : LedT} {K : Bool → Prop} {sa sb : SV} {va vb : Value} {P : Value → Value → Prop} (hK : isS K sa sb) (ha : VR w g sa va) (hb : VR w g sb vb) (k1 : K true → P .none .none) (k2 : ∀ r, K false → P (.ref r) .none) : P va vb := by
  cases sa <;> first | exact hK.elim | skip
  · obtain ⟨rfl, hK⟩ := onZ_iff.mp hK
    cases ha; cases hb; exact k1 hK
  · obtain ⟨rfl, hK⟩ := onZ_iff.mp hK
    obtain ⟨r, _, _, rfl, _⟩ := ha; cases hb
    exact k2 _ hK
theorem v_cmp {s : Shared} {g : LedT} {K : SV → Prop} {Q : Value → Shared → Prop} {sa sb : SV} {va vb : Value} {op : Op2} {o : CmpOp} (ho : cmOf op = some o) (hu : c.A.units + 64 < cLine) (N : News c.h₀ c.L s.heap g) (hK : biS op sa sb K) (ha : VR c.w g sa va) (hb : VR c.w g sb vb)
    (kk : ∀ b, K (.bool b) → Q (.bool b) s) : wpAny (model PRG c.w) c.A (compareOp o va vb) Q NoE s :=
  cmOf_elim (P := fun op o => biS op sa sb K → wpAny (model PRG c.w) c.A (compareOp o va vb) Q NoE s) (fun hK => int2_elim (P := fun va vb => wpAny (model PRG c.w) c.A (compareOp .Lt va vb) Q NoE s) hK ha hb fun _ _ _ _ h => PyProof.Rows.lt_int (kk _ h)) (fun hK => int2_elim (P := fun va vb => wpAny (model PRG c.w) c.A (compareOp .LtE va vb) Q NoE s) hK ha hb fun _ _ _ _ h => le_int (kk _ h))
    (fun hK => int2_elim (P := fun va vb => wpAny (model PRG c.w) c.A (compareOp .Gt va vb) Q NoE s) hK ha hb fun _ _ _ _ h => PyProof.Rows.gt_int (kk _ h)) (fun hK => int2_elim (P := fun va vb => wpAny (model PRG c.w) c.A (compareOp .GtE va vb) Q NoE s) hK ha hb fun _ _ _ _ h => ge_int (kk _ h))
    (fun hK => v_eq hu N (K := fun b => K (.bool b)) hK ha hb kk) (fun hK => v_ne hu N (K := fun b => K (.bool b)) hK ha hb kk)
    (fun hK => isS_elim (K := fun b => K (.bool b)) (P := fun va vb => wpAny (model PRG c.w) c.A (compareOp .Is va vb) Q NoE s) hK ha hb (fun h => is_none_none (kk _ h)) fun r h => is_none_ne (by intro h; cases h) (kk _ h))
    (fun hK => isS_elim (K := fun b => K (.bool (!b))) (P := fun va vb => wpAny (model PRG c.w) c.A (compareOp .IsNot va vb) Q NoE s) hK ha hb (fun h => isnot_none_none (kk _ h)) fun r h => isnot_none_ne (by intro h; cases h) (kk _ h)) ho hK
theorem s_cmp {op : Op2} {o : CmpOp} {l r : Expr} {p : Pos} {K : SV → Prop} {P : SV → Prop} (C : Ctx c ns n Γ) (ho : cmOf op = some o) (h1 : EvS c ns ρ l P) (h2 : ∀ sa, P sa → EvS c ns ρ r fun sb => biS op sa sb K) : EvS c ns ρ (.Compare l [o] [r] p) K := fun m Q s g F N R kk =>
  wpAny_Compare1 (ev2 h1 h2 m _ s g F N R fun va vb h' tk g' sa sb F' N' hs hK hva hvb => v_cmp (s := { s with heap := h', toks := tk }) ho (units64 C.ok) N' hK hva hvb fun b hb => kk _ _ _ g' _ F' N' hs hb rfl) (cm_marks ho r)
theorem t_cmp {op : Op2} {o : CmpOp} {l r : Expr} {p : Pos} {K : SV → Prop} {P : SV → Prop} (C : Ctx c ns n Γ) (ho : cmOf op = some o) (h1 : EvS c ns ρ l P) (h2 : ∀ sa, P sa → EvS c ns ρ r fun sb => biS op sa sb K) : TrS c ns ρ (.Compare l [o] [r] p) K := fun m Q s g F N R kk =>
  wpAny_isTrue_Compare1 (ev2 h1 h2 m _ s g F N R fun va vb h' tk g' sa sb F' N' hs hK hva hvb => v_cmp (s := { s with heap := h', toks := tk }) ho (units64 C.ok) N' hK hva hvb fun b hb => wpAny_truthy_bool (kk _ _ _ g' F' N' hs hb)) (cm_marks ho r)
end

section
open PySem.Calls PyProof.V
variable {c : Cx} {ns : List Str} {n : Nat} {Γ : Nat → FnT} {ρ : List SV}
theorem isTrue_whole {M : Model} {A : Around} {op : BoolOp} {l : List Expr} {p : Pos} {env : Env} {w1 w2 : Sem Value} {Q : Bool → Shared → Prop} {E : Value → Shared → Prop} {s : Shared} (h : wpAny M A (isTrue (.BoolOp op l p) env w1) Q E s) : wpAny M A (isTrue (.BoolOp op l p) env w2) Q E s := h
theorem t_plain {e : Expr} {K : SV → Prop} (he : isTrue e c.env (eval e c.env) = (do let v ← eval e c.env; standAt e.pos; holding [v] (truthy v))) (hB : ∀ sv, K sv → ∃ b, sv = .bool b) (h : EvS c ns ρ e K) : TrS c ns ρ e K := fun m Q s g F N R kk =>
  isTrue_plain (h m _ s g F N R fun v h' tk g' sv F' N' hs hK hv => by
    obtain ⟨b, rfl⟩ := hB sv hK
    subst hv
    exact wpAny_truthy_bool (kk _ _ _ g' F' N' hs hK)) he
theorem t_not {e : Expr} {p : Pos} {K : SV → Prop} (h : TrS c ns ρ e (onB fun b => K (.bool (!b)))) : TrS c ns ρ (.UnaryOp .Not e p) K := fun m Q s g F N R kk => isTrue_not (h m _ s g F N R fun b h' tk g' F' N' hs hK => kk _ _ _ g' F' N' hs hK)
theorem s_and {v v2 : Expr} {r : List Expr} {p : Pos} {K : SV → Prop} {P : Prop} (h1 : EvS c ns ρ v (onB fun q => (q = true → P) ∧ (q = false → K (.bool false)))) (h2 : P → EvS c ns ρ (.BoolOp .And (v2 :: r) p) K) : EvS c ns ρ (.BoolOp .And (v :: v2 :: r) p) K := fun m Q s g F N R kk =>
  BoolOp_and (h1 m _ s g F N R fun v' h' tk g' sv F' N' hs hK hv => by
    obtain ⟨q, rfl, hK⟩ := onB_iff.mp hK
    subst hv
    refine wpAny_truthy_bool ?_
    cases q
    · exact kk _ _ _ g' _ F' N' hs (hK.2 rfl) rfl
    · exact h2 (hK.1 rfl) m _ { s with heap := h', toks := tk } g' F' N' (R.mono hs) fun v3 h3 tk3 g3 sv3 F3 N3 hs3 => kk v3 h3 tk3 g3 sv3 F3 N3 (hs.trans hs3))
theorem s_or {v v2 : Expr} {r : List Expr} {p : Pos} {K : SV → Prop} {P : Prop} (h1 : EvS c ns ρ v (onB fun q => (q = false → P) ∧ (q = true → K (.bool true)))) (h2 : P → EvS c ns ρ (.BoolOp .Or (v2 :: r) p) K) : EvS c ns ρ (.BoolOp .Or (v :: v2 :: r) p) K := fun m Q s g F N R kk =>
  BoolOp_or (h1 m _ s g F N R fun v' h' tk g' sv F' N' hs hK hv => by
    obtain ⟨q, rfl, hK⟩ := onB_iff.mp hK
    subst hv
    refine wpAny_truthy_bool ?_
    cases q
    · exact h2 (hK.1 rfl) m _ { s with heap := h', toks := tk } g' F' N' (R.mono hs) fun v3 h3 tk3 g3 sv3 F3 N3 hs3 => kk v3 h3 tk3 g3 sv3 F3 N3 (hs.trans hs3)
    · exact kk _ _ _ g' _ F' N' hs (hK.2 rfl) rfl)
theorem s_one {op : BoolOp} {v : Expr} {p : Pos} {K : SV → Prop} (h : EvS c ns ρ v K) : EvS c ns ρ (.BoolOp op [v] p) K := fun m Q s g F N R kk => BoolOp_one (h m Q s g F N R kk)
theorem t_and {v v2 : Expr} {r : List Expr} {p : Pos} {K : SV → Prop} {P : Prop} (h1 : TrS c ns ρ v (onB fun q => (q = true → P) ∧ (q = false → K (.bool false)))) (h2 : P → TrS c ns ρ (.BoolOp .And (v2 :: r) p) K) : TrS c ns ρ (.BoolOp .And (v :: v2 :: r) p) K := fun m Q s g F N R kk =>
  isTrue_and (h1 m _ s g F N R fun q h' tk g' F' N' hs hK => by
    cases q
    · exact kk _ _ _ g' F' N' hs (hK.2 rfl)
    · exact isTrue_whole (h2 (hK.1 rfl) m _ { s with heap := h', toks := tk } g' F' N' (R.mono hs) fun v3 h3 tk3 g3 F3 N3 hs3 => kk v3 h3 tk3 g3 F3 N3 (hs.trans hs3)))
theorem t_or {v v2 : Expr} {r : List Expr} {p : Pos} {K : SV → Prop} {P : Prop} (h1 : TrS c ns ρ v (onB fun q => (q = false → P) ∧ (q = true → K (.bool true)))) (h2 : P → TrS c ns ρ (.BoolOp .Or (v2 :: r) p) K) : TrS c ns ρ (.BoolOp .Or (v :: v2 :: r) p) K := fun m Q s g F N R kk =>
  isTrue_or (h1 m _ s g F N R fun q h' tk g' F' N' hs hK => by
    cases q
    · exact isTrue_whole (h2 (hK.1 rfl) m _ { s with heap := h', toks := tk } g' F' N' (R.mono hs) fun v3 h3 tk3 g3 F3 N3 hs3 => kk v3 h3 tk3 g3 F3 N3 (hs.trans hs3))
    · exact kk _ _ _ g' F' N' hs (hK.2 rfl))
theorem t_one {op : BoolOp} {v : Expr} {p : Pos} {K : SV → Prop} (h : TrS c ns ρ v K) : TrS c ns ρ (.BoolOp op [v] p) K := fun m Q s g F N R kk => by
  cases op
  · exact isTrue_and (h m _ s g F N R fun q h' tk g' F' N' hs hK => by
      cases q
      · exact kk _ _ _ g' F' N' hs hK
      · exact isTrue_and_nil (kk _ _ _ g' F' N' hs hK))
  · exact isTrue_or (h m _ s g F N R fun q h' tk g' F' N' hs hK => by
      cases q
      · exact isTrue_or_nil (kk _ _ _ g' F' N' hs hK)
      · exact kk _ _ _ g' F' N' hs hK)
theorem s_ite {t x y : Expr} {p : Pos} {K : SV → Prop} {P1 P2 : Prop} (h : TrS c ns ρ t (onB fun q => (q = true → P1) ∧ (q = false → P2))) (h1 : P1 → EvS c ns ρ x K) (h2 : P2 → EvS c ns ρ y K) : EvS c ns ρ (.IfExp t x y p) K := fun m Q s g F N R kk =>
  IfExp_ (h m _ s g F N R fun q h' tk g' F' N' hs hK => by
    cases q
    · exact h2 (hK.2 rfl) m _ { s with heap := h', toks := tk } g' F' N' (R.mono hs) fun v3 h3 tk3 g3 sv3 F3 N3 hs3 => kk v3 h3 tk3 g3 sv3 F3 N3 (hs.trans hs3)
    · exact h1 (hK.1 rfl) m _ { s with heap := h', toks := tk } g' F' N' (R.mono hs) fun v3 h3 tk3 g3 sv3 F3 N3 hs3 => kk v3 h3 tk3 g3 sv3 F3 N3 (hs.trans hs3))
theorem args2 {x y : Expr} {p : Pos} {P : SV → Prop} {K2 : SV → SV → Prop} (hx : isStar x = false) (hy : isStar y = false) (h1 : EvS c ns ρ x P) (h2 : ∀ sa, P sa → EvS c ns ρ y (K2 sa)) (m : Str → Option Value) (Q : List Value → Shared → Prop) (s : Shared) (g : LedT) (F : Fr c.h₀ c.L s.heap m) (N : News c.h₀ c.L s.heap g) (R : EnvR c.w g m ns ρ)
    (kk : ∀ va vb h tk g' sa sb, Fr c.h₀ c.L h m → News c.h₀ c.L h g' → Sub g g' → K2 sa sb → VR c.w g' sa va → VR c.w g' sb vb → Q [va, vb] { s with heap := h, toks := tk }) :
    wpAny (model PRG c.w) c.A (spliced (backTo p (starEach [x, y] c.env))) Q NoE s :=
  args_cons (wpAny_mono (ev2 h1 h2 m (fun va vb s' => Q [va, vb] s') s g F N R kk) (fun va s1 h => args_cons (wpAny_mono h (fun vb s2 h' => args_nil h') fun _ _ e => e) (star_cons hy)) fun _ _ e => e) (star_cons hx)
theorem s_tup {x y : Expr} {k : Nat} {p : Pos} {K : SV → Prop} {P : SV → Prop} (hx : isStar x = false) (hy : isStar y = false) (h1 : EvS c ns ρ x P) (h2 : ∀ sa, P sa → EvS c ns ρ y fun sb => K (.tup sa sb)) : EvS c ns ρ (.Tuple [x, y] k p) K := fun m Q s g F N R kk =>
  Tuple_ (args2 hx hy h1 h2 m _ s g F N R fun va vb h' tk g' sa sb F' N' hs hK ha hb =>
    newTuple_N (s := { s with heap := h', toks := tk }) F' N' (fun h2 F2 N2 => kk _ _ _ _ _ F2 N2 hs.consR hK ⟨_, va, vb, rfl, .head _, ha.mono (Sub.refl.consR), hb.mono (Sub.refl.consR)⟩) (by rw [PySem.sizeLine_eq]; show 2 ≤ _; decide))
theorem a_nil {K : SV → Prop} (h : K .dnil) : ArS c ns ρ [] K := fun p m Q s g F N R kk => args_nil (kk [] s.heap s.toks g _ F N .refl h rfl rfl)
theorem a_cons {x : Expr} {xs : List Expr} {k : Nat} {K : SV → Prop} {P : SV → Prop} (hx : isStar x = false) (h1 : EvS c ns ρ x P) (h2 : ∀ v, P v → ArS c ns ρ xs fun rs => K (.dcons k v rs)) : ArS c ns ρ (x :: xs) K := fun p m Q s g F N R kk =>
  args_cons (h1 m _ s g F N R fun v h' tk g' sv F' N' hs hP hv => h2 sv hP p m _ { s with heap := h', toks := tk } g' F' N' (R.mono hs) fun vs h3 tk3 g3 ch F3 N3 hs3 hK hvs hl =>
    kk _ _ _ g3 _ F3 N3 (hs.trans hs3) hK ⟨v, vs, rfl, hv.mono hs3, hvs⟩ (by rw [List.length_cons, List.length_cons, hl])) (star_cons hx)
theorem s_call {f : Nat} {es : List Expr} {pf p : Pos} {K : SV → Prop} (C : Ctx c ns n Γ) (hf : f < n) (hx : globOk c.cs (fnam f) = true) (hp : ∀ p, (backTo p (starEach es c.env)).any (·.1) = false) (hs : ∀ e r, es = e :: r → isStar e = false ∧ ∀ p, (backTo p (starEach r c.env)).any (·.1) = false) (h : ArS c ns ρ es fun ch => Γ f (toL ch) K) : EvS c ns ρ (.Call (.Name (fnam f) pf) es [] p) K := fun m Q s g F N R kk => by
  have fin : ∀ (s1 : Shared) (g1 : LedT) (vs : List Value) (ch : SV), Fr c.h₀ c.L s1.heap m → News c.h₀ c.L s1.heap g1 → Sub g g1 → Γ f (toL ch) K → VRs c.w g1 (toL ch) vs → (∃ h tk, s1 = { s with heap := h, toks := tk }) → wpAny (model PRG c.w) c.A (call (.ref (fadr f)) vs) Q NoE s1 := by
    rintro s1 g1 vs ch F1 N1 hs1 hT hv ⟨h', tk, rfl⟩
    have hr := C.ok.room
    have hu := C.ok.units
    exact C.fns f hf _ K hT c m _ g1 vs Q rfl C.ok.below C.ok.ins C.ok.top C.ok.kind (by omega) (by omega) F1 N1 hv fun v h3 tk3 g3 sv F3 N3 hs3 => kk v h3 tk3 g3 sv F3 N3 (hs1.trans hs3)
  refine Call_ (ld_glob C.ok hx F (C.nsI f hf) ?_)
  cases es with
  | nil =>
    refine callWith_K0 (C.ok.ins.keeps F.keep) (C.kpI f hf) ?_
    have := h p m (fun vs s1 => wpAny (model PRG c.w) c.A (call (.ref (fadr f)) vs) Q NoE s1) s g F N R fun vs h' tk g' ch F' N' hs' hT hv _ => fin _ g' vs ch F' N' hs' hT hv ⟨_, _, rfl⟩
    exact fun G q hG => this G q hG G q hG
  | cons e r =>
    obtain ⟨h1, h2⟩ := hs e r rfl
    refine callWith_K (h₀ := c.h₀) C.ok.ins (C.kpI f hf) ?_ (star_cons h1) (h2 p)
    exact h p m _ s g F N R fun vs h' tk g' ch F' N' hs' hT hv _ => ⟨C.ok.ins.keeps F'.keep, fin _ g' vs ch F' N' hs' hT hv ⟨_, _, rfl⟩⟩
end

section
open PySem.Calls PyProof.V
variable {c : Cx} {ns : List Str} {n : Nat} {Γ : Nat → FnT} {ρ : List SV}
theorem blt_is : ∀ k, k < 3 → bootBuiltins (bnam k) = some (.builtin (match k with | 0 => "max" | 1 => "min" | _ => "abs")) ∧ bnam k ≠ "__name__"
  | 0, _ => ⟨by with_unfolding_all rfl, by decide +kernel⟩
  | 1, _ => ⟨by with_unfolding_all rfl, by decide +kernel⟩
  | 2, _ => ⟨by with_unfolding_all rfl, by decide +kernel⟩
  | _ + 3, h => absurd h (by omega)
theorem mxEq {i j : Int} : (if j > i then j else i) = max i j := by
  rw [Int.max_def]; split <;> split <;> omega
theorem mnEq {i j : Int} : (if j < i then j else i) = min i j := by
  rw [Int.min_def]; split <;> split <;> omega
theorem s_mx2 {x y : Expr} {pf p : Pos} {K : SV → Prop} {P : SV → Prop} (C : Ctx c ns n Γ) (hg : globOk c.cs (bnam 0) = true) (hx : isStar x = false) (hy : isStar y = false) (h1 : EvS c ns ρ x P) (h2 : ∀ sa, P sa → EvS c ns ρ y fun sb => int2 (fun i j => K (.int (max i j))) sa sb) : EvS c ns ρ (.Call (.Name (bnam 0) pf) [x, y] [] p) K := fun m Q s g F N R kk =>
  Call_ (ld_blt C.ok hg F (C.blI 0 (by decide)) (blt_is 0 (by decide)).1 (blt_is 0 (by decide)).2 (callWith_builtin1 (args2 hx hy h1 h2 m _ s g F N R fun va vb h' tk g' sa sb F' N' hs hK ha hb => by
    obtain ⟨i, j, rfl, rfl, hK⟩ := int2_iff hK
    obtain ⟨t, rfl⟩ := ha; obtain ⟨u, rfl⟩ := hb
    refine max_two_N (s := { s with heap := h', toks := tk }) rfl F' N' fun h2 tk2 F2 N2 => ?_
    rw [mxEq]
    exact kk _ _ _ _ _ F2 N2 hs hK ⟨_, rfl⟩) (star_cons hx) (by rw [star_cons hy]; rfl)))
theorem s_mn2 {x y : Expr} {pf p : Pos} {K : SV → Prop} {P : SV → Prop} (C : Ctx c ns n Γ) (hg : globOk c.cs (bnam 1) = true) (hx : isStar x = false) (hy : isStar y = false) (h1 : EvS c ns ρ x P) (h2 : ∀ sa, P sa → EvS c ns ρ y fun sb => int2 (fun i j => K (.int (min i j))) sa sb) : EvS c ns ρ (.Call (.Name (bnam 1) pf) [x, y] [] p) K := fun m Q s g F N R kk =>
  Call_ (ld_blt C.ok hg F (C.blI 1 (by decide)) (blt_is 1 (by decide)).1 (blt_is 1 (by decide)).2 (callWith_builtin1 (args2 hx hy h1 h2 m _ s g F N R fun va vb h' tk g' sa sb F' N' hs hK ha hb => by
    obtain ⟨i, j, rfl, rfl, hK⟩ := int2_iff hK
    obtain ⟨t, rfl⟩ := ha; obtain ⟨u, rfl⟩ := hb
    refine min_two_N (s := { s with heap := h', toks := tk }) rfl F' N' fun h2 tk2 F2 N2 => ?_
    rw [mnEq]
    exact kk _ _ _ _ _ F2 N2 hs hK ⟨_, rfl⟩) (star_cons hx) (by rw [star_cons hy]; rfl)))
theorem args1 {x : Expr} {p : Pos} {P : SV → Prop} (hx : isStar x = false) (h1 : EvS c ns ρ x P) (m : Str → Option Value) (Q : List Value → Shared → Prop) (s : Shared) (g : LedT) (F : Fr c.h₀ c.L s.heap m) (N : News c.h₀ c.L s.heap g) (R : EnvR c.w g m ns ρ)
    (kk : ∀ va h tk g' sa, Fr c.h₀ c.L h m → News c.h₀ c.L h g' → Sub g g' → P sa → VR c.w g' sa va → Q [va] { s with heap := h, toks := tk }) :
    wpAny (model PRG c.w) c.A (spliced (backTo p (starEach [x] c.env))) Q NoE s :=
  args_cons (h1 m _ s g F N R fun va h' tk g' sa F' N' hs hK hv => args_nil (kk va h' tk g' sa F' N' hs hK hv)) (star_cons hx)
theorem s_mxL {x : Expr} {pf p : Pos} {K : SV → Prop} (C : Ctx c ns n Γ) (hg : globOk c.cs (bnam 0) = true) (hx : isStar x = false) (h1 : EvS c ns ρ x (onL fun l => 0 < l.length ∧ ∀ M, M ∈ l → (∀ a ∈ l, a ≤ M) → K (.int M))) : EvS c ns ρ (.Call (.Name (bnam 0) pf) [x] [] p) K := fun m Q s g F N R kk =>
  Call_ (ld_blt C.ok hg F (C.blI 0 (by decide)) (blt_is 0 (by decide)).1 (blt_is 0 (by decide)).2 (callWith_builtin1 (args1 hx h1 m _ s g F N R fun va h' tk g' sa F' N' hs hK ha => by
    obtain ⟨l, rfl, hn, hK⟩ := onL_iff.mp hK
    obtain ⟨r, vs, k, rfl, hm, hi⟩ := ha
    exact max_list_N (s := { s with heap := h', toks := tk }) rfl F' N' (news_list N' hm) hi hn fun h2 M t tk2 F2 N2 hM hA => kk _ _ _ _ _ F2 N2 hs (hK M hM hA) ⟨_, rfl⟩) (star_cons hx) rfl))
theorem s_mnL {x : Expr} {pf p : Pos} {K : SV → Prop} (C : Ctx c ns n Γ) (hg : globOk c.cs (bnam 1) = true) (hx : isStar x = false) (h1 : EvS c ns ρ x (onL fun l => 0 < l.length ∧ ∀ M, M ∈ l → (∀ a ∈ l, M ≤ a) → K (.int M))) : EvS c ns ρ (.Call (.Name (bnam 1) pf) [x] [] p) K := fun m Q s g F N R kk =>
  Call_ (ld_blt C.ok hg F (C.blI 1 (by decide)) (blt_is 1 (by decide)).1 (blt_is 1 (by decide)).2 (callWith_builtin1 (args1 hx h1 m _ s g F N R fun va h' tk g' sa F' N' hs hK ha => by
    obtain ⟨l, rfl, hn, hK⟩ := onL_iff.mp hK
    obtain ⟨r, vs, k, rfl, hm, hi⟩ := ha
    exact min_list_N (s := { s with heap := h', toks := tk }) rfl F' N' (news_list N' hm) hi hn fun h2 M t tk2 F2 N2 hM hA => kk _ _ _ _ _ F2 N2 hs (hK M hM hA) ⟨_, rfl⟩) (star_cons hx) rfl))
theorem s_abs {x : Expr} {pf p : Pos} {K : SV → Prop} (C : Ctx c ns n Γ) (hg : globOk c.cs (bnam 2) = true) (hx : isStar x = false) (h1 : EvS c ns ρ x (onI fun n => K (.int (if n < 0 then -n else n)))) : EvS c ns ρ (.Call (.Name (bnam 2) pf) [x] [] p) K := fun m Q s g F N R kk =>
  Call_ (ld_blt C.ok hg F (C.blI 2 (by decide)) (blt_is 2 (by decide)).1 (blt_is 2 (by decide)).2 (callWith_builtin1 (args1 hx h1 m _ s g F N R fun va h' tk g' sa F' N' hs hK ha => by
    obtain ⟨i, rfl, hK⟩ := onI_iff.mp hK
    obtain ⟨t, rfl⟩ := ha
    exact call_abs_int (s := { s with heap := h', toks := tk }) fun u tk2 => kk _ _ _ _ _ F' N' hs hK ⟨_, rfl⟩) (star_cons hx) rfl))
theorem gInts_are {w : World} {g : LedT} {ch : SV} : ∀ {K : List Int → Prop} {F : Prop} {vs : List Value}, gInts ch K F → VRs w g (toL ch) vs → (∃ l, K l ∧ IntsAre vs l) ∨ F := by
  induction ch with
  | dnil => intro K F vs h hv; cases hv; exact .inl ⟨[], h, .nil⟩
  | dcons k x r ihx ih =>
    clear ihx
    intro K F vs h hv
    cases x with
    | int i =>
      obtain ⟨v, rest, rfl, ⟨t, rfl⟩, h2⟩ := hv
      exact (ih (show gInts r _ F from h) h2).imp (fun ⟨l, hk, hi⟩ => ⟨_, hk, .cons i t hi⟩) id
    | _ => exact .inr h
  | _ => intro K F vs h; exact fun _ => .inr h
theorem gStrs_are {w : World} {g : LedT} {ch : SV} : ∀ {K : List Nat → Prop} {F : Prop} {vs : List Value}, gStrs ch K F → VRs w g (toL ch) vs → (∃ l, K l ∧ StrVs l vs) ∨ F := by
  induction ch with
  | dnil => intro K F vs h hv; cases hv; exact .inl ⟨[], h, rfl⟩
  | dcons k x r ihx ih =>
    clear ihx
    intro K F vs h hv
    cases x with
    | str i =>
      obtain ⟨v, rest, rfl, ⟨hi, t, rfl⟩, h2⟩ := hv
      exact (ih (show gStrs r _ F from h) h2).imp (fun ⟨l, hk, hj⟩ => ⟨_, hk, t, rest, rfl, hi, hj⟩) id
    | _ => exact .inr h
  | _ => intro K F vs h; exact fun _ => .inr h
theorem s_lst {es : List Expr} {p : Pos} {K : SV → Prop} (hl : es.length ≤ 16) (h : ArS c ns ρ es (mkL K)) : EvS c ns ρ (.List es p) K := fun m Q s g F N R kk =>
  List_ (h p m _ s g F N R fun vs h' tk g' ch F' N' hs hK hv hlen =>
    newList_N (s := { s with heap := h', toks := tk }) F' N' (fun h2 F2 N2 => by
      rcases gInts_are (show gInts ch (fun l => K (.ints l)) (gStrs ch (fun l => K (.strs l)) False) from hK) hv with ⟨l, hk, hi⟩ | hK
      · exact kk _ _ _ _ _ F2 N2 hs.consR hk ⟨_, vs, 0, rfl, .head _, hi⟩
      · rcases gStrs_are hK hv with ⟨l, hk, hj⟩ | hF
        · exact kk _ _ _ _ _ F2 N2 hs.consR hk ⟨_, vs, 0, rfl, .head _, hj⟩
        · exact hF.elim) (by rw [PySem.sizeLine_eq, hlen]; exact Nat.le_trans hl (by decide)))
end
section
open PySem.Calls PyProof.V
variable {c : Cx} {ns : List Str} {n : Nat} {Γ : Nat → FnT} {ρ : List SV}
theorem nodup_tab : ∀ {l : List Nat}, l.Nodup → l.all (fun k => decide (k < 13)) = true → (l.map strTab).Nodup
  | [], _, _ => .nil
  | k :: r, h, ha => by
    have ha' := Bool.and_eq_true_iff.mp (show (decide (k < 13) && r.all fun k => decide (k < 13)) = true from ha)
    have h' := List.nodup_cons.mp h
    refine List.nodup_cons.mpr ⟨fun hm => ?_, nodup_tab h'.2 ha'.2⟩
    obtain ⟨j, hj, e⟩ := List.mem_map.mp hm
    have : j = k := strTab_inj (of_decide_eq_true (List.all_eq_true.mp ha'.2 j hj)) (of_decide_eq_true ha'.1) e
    exact h'.1 (this ▸ hj)
theorem key_str {k : Nat} {e : Option Expr} (h : kKeyStr k e = true) : ∃ n p, e = some (.Constant (.str (strTab k)) n p) := by
  cases e with
  | none => exact bad h rfl
  | some e => obtain ⟨q, n, p, rfl, h⟩ := in_const h; rw [in_cS h]; exact ⟨n, p, rfl⟩
theorem name_is {cs : Scope} {x : Str} {f : Expr} (h : nameIs cs x f = true) : (∃ p, f = .Name x p) ∧ globOk cs x = true := by
  obtain ⟨y, p, rfl, h⟩ := in_name h
  obtain ⟨h1, h2⟩ := and3 h
  rw [← eq_of_beq h1]; exact ⟨⟨p, rfl⟩, h2⟩
theorem c_int {k : Int} {e : Expr} (h : cInt k e = true) : ∃ n p, e = .Constant (.int k) n p := by
  obtain ⟨q, n, p, rfl, h⟩ := in_const h; rw [in_cI h]; exact ⟨n, p, rfl⟩
theorem chkP_inv {c : Ck} {ie : IE} {ks : List (Option Expr)} {vs : List Expr} (h : chkP c ie ks vs = true) : (ie = .anil ∧ ks = [] ∧ vs = []) ∨ ∃ k e r n p v ks' vs', ie = .acons k e r ∧ ks = some (.Constant (.str (strTab k)) n p) :: ks' ∧ vs = v :: vs' ∧ chkE c e v = true ∧ chkP c r ks' vs' = true := by
  cases ie <;> first | exact absurd h Bool.noConfusion | skip
  · obtain ⟨h1, h2⟩ := and3 (show (ks.isEmpty && vs.isEmpty) = true from h)
    exact .inl ⟨rfl, List.isEmpty_iff.mp h1, List.isEmpty_iff.mp h2⟩
  · cases ks with
    | nil => cases h
    | cons q ks' =>
      cases vs with
      | nil => cases h
      | cons v vs' =>
        obtain ⟨h1, h2⟩ := and3 h
        obtain ⟨n, p, rfl⟩ := key_str h1
        exact .inr ⟨_, _, _, n, p, v, ks', vs', rfl, rfl, rfl, (and3 h2).1, (and3 h2).2⟩
theorem pairs_ok {c : Ck} {ks : List (Option Expr)} : ∀ {vs : List Expr} {ie : IE}, chkP c ie ks vs = true → strLits ks = true ∧ ks.all (·.isSome) = true ∧ ks.length = vs.length := by
  induction ks with
  | nil =>
    intro vs ie h
    rcases chkP_inv h with ⟨_, _, rfl⟩ | ⟨_, _, _, _, _, _, _, _, _, e, _⟩
    · exact ⟨rfl, rfl, rfl⟩
    · cases e
  | cons q ks ih =>
    intro vs ie h
    rcases chkP_inv h with ⟨_, e, _⟩ | ⟨k, e, r, n, p, v, ks', vs', _, e1, rfl, _, hr⟩
    · cases e
    · obtain ⟨rfl, rfl⟩ := List.cons.inj e1
      have h := ih hr
      exact ⟨h.1, h.2.1, congrArg Nat.succ h.2.2⟩
theorem p_nil {K : SV → Prop} (h : K .dnil) : PrS c ns ρ [] [] K := fun p m Q s g F N R kk => pairTrees_nil_walk (kk [] s.heap s.toks g _ F N .refl h rfl (fun _ => rfl) rfl)
theorem p_cons {k kk0 : Nat} {kp : Pos} {v : Expr} {ks : List (Option Expr)} {vs : List Expr} {K : SV → Prop} {P : SV → Prop} (h1 : EvS c ns ρ v P) (h2 : ∀ x, P x → PrS c ns ρ ks vs fun rs => K (.dcons k x rs)) : PrS c ns ρ (some (.Constant (.str (strTab k)) kk0 kp) :: ks) (v :: vs) K := fun p m Q s g F N R kk =>
  pairTrees_cons_walk (PySem.Calls.Constant_str (h1 m _ { s with toks := _ } g F N R fun v h' tk g' sv F' N' hs hP hv => h2 sv hP p m _ { s with heap := h', toks := tk } g' F' N' (R.mono hs) fun ps h3 tk3 g3 ch F3 N3 hs3 hK ha hr he =>
    kk _ _ _ g3 _ F3 N3 (hs.trans hs3) hK ha (fun hk => by
      have hk' := Bool.and_eq_true_iff.mp (show (decide (k < 13) && (dkeys ch).all fun k => decide (k < 13)) = true from hk)
      exact ⟨v, _, rfl, of_decide_eq_true hk'.1, hv.mono hs3, hr hk'.2⟩) (congrArg (strTab k :: ·) he)))
theorem dict_cls {w : World} {o : Obj} {ws : List (Str × Value)} (h : o.IsDictOf (KND w) ws) : o.cls = .type "dict" := by
  obtain ⟨_, _, hx, _⟩ := h
  exact hx.1
/-- the ledger without the entries at d -/
noncomputable def offD (d : Addr) (g : LedT) : LedT := g.filter fun p => decide (p.1 ≠ d)
theorem offD_sub {d : Addr} {g : LedT} : Sub (offD d g) g := fun _ hp => (List.mem_filter.mp hp).1
theorem offD_ne {d : Addr} {g : LedT} : ∀ p ∈ offD d g, p.1 ≠ d := fun _ hp => of_decide_eq_true (List.mem_filter.mp hp).2
theorem noDict_off {w : World} {h₀ h : Heap} {L d : Addr} {o : Obj} {ws : List (Str × Value)} {g : LedT} (N : News h₀ L h g) (hm : (d, o) ∈ g) (hd : o.IsDictOf (KND w) ws) : Sub (noDict g) (offD d g) := fun p hp => by
  obtain ⟨h1, h2⟩ := List.mem_filter.mp hp
  refine List.mem_filter.mpr ⟨h1, decide_eq_true fun e => ?_⟩
  have e1 := (N _ h1).1
  have e2 := (N _ hm).1
  rw [e] at e1
  have e3 : some p.2 = some o := e1.symm.trans e2
  have h2' := of_decide_eq_true h2
  rw [Option.some.inj e3] at h2'
  exact h2' (dict_cls hd)
theorem dict_core {ks : List (Option Expr)} {vs : List Expr} {p : Pos} {K : SV → Prop} (C : Ctx c ns n Γ) (hlit : strLits ks = true) (hall : ks.all (·.isSome) = true) (hl : ks.length = vs.length) (h0 : ks ≠ []) (h15 : ks.length ≤ 15)
    (h : PrS c ns ρ ks vs fun ch => (flat ch && keysOk (dkeys ch)) = true ∧ K ch) (m : Str → Option Value) (Q : Value → Shared → Prop) (s : Shared) (g : LedT) (F : Fr c.h₀ c.L s.heap m) (N : News c.h₀ c.L s.heap g) (R : EnvR c.w g m ns ρ)
    (kk : ∀ d h4 tk o4 ws g4 ch, Fr c.h₀ c.L h4 m → News c.h₀ c.L h4 ((d, o4) :: g4) → Sub g g4 → (∀ q ∈ g4, q.1 ≠ d) → (d == sysModules) = false → o4.IsDictOf (KND c.w) ws → VRK c.w g4 ch ws → flat ch = true → K ch → Q (.ref d) { s with heap := h4, toks := tk }) : wpAny (model PRG c.w) c.A (eval (.Dict ks vs p) c.env) Q NoE s :=
  kdn_str hlit F N C.ok.top.nolimit hall hl h0 h15 fun d h' o F' N' hlt hmod hd =>
    h p m _ { s with heap := h' } ((d, o) :: g) F' N' (R.mono Sub.refl.consR) fun ps h3 tk3 g3 ch F3 N3 hs3 hK ha hr he => by
      obtain ⟨hfk, hK⟩ := hK
      have hfk' := Bool.and_eq_true_iff.mp hfk
      have hko := Bool.and_eq_true_iff.mp (show (decide (dkeys ch).Nodup && (dkeys ch).all fun k => decide (k < 13)) = true from hfk'.2)
      have hm3 : (d, o) ∈ g3 := hs3 _ (.head _)
      refine kdn_made_str (s := { s with heap := h3, toks := tk3 }) (news := (d, o) :: offD d g3) F3 (fun p hp => ?_) (.head offD_ne) hd ha (by rw [he]; exact nodup_tab (of_decide_eq_true hko.1) hko.2) fun h4 o4 F4 N4 hd4 => ?_
      · rcases List.mem_cons.mp hp with rfl | hp
        · exact N3 _ hm3
        · exact N3 _ (offD_sub p hp)
      · exact kk d h4 _ o4 _ (offD d g3) ch F4 N4 (fun p hp => List.mem_filter.mpr ⟨hs3 p (.tail _ hp), decide_eq_true (Nat.ne_of_lt (hlt p hp))⟩) offD_ne hmod hd4 (((hr hko.2).drop hfk'.1).mono (noDict_off N3 hm3 hd)) hfk'.1 hK
theorem s_dict {ks : List (Option Expr)} {vs : List Expr} {p : Pos} {K : SV → Prop} (C : Ctx c ns n Γ) (hlit : strLits ks = true) (hall : ks.all (·.isSome) = true) (hl : ks.length = vs.length) (h0 : ks ≠ []) (h15 : ks.length ≤ 15)
    (h : PrS c ns ρ ks vs fun ch => (flat ch && keysOk (dkeys ch)) = true ∧ K (.fdct ch)) : EvS c ns ρ (.Dict ks vs p) K := fun m Q s g F N R kk =>
  dict_core (K := fun ch => K (.fdct ch)) C hlit hall hl h0 h15 h m Q s g F N R fun d h4 tk o4 ws g4 ch F4 N4 hs hne hmod hd4 hk hf hK =>
    kk _ _ _ _ _ F4 N4 hs.consR hK ⟨d, o4, ws, rfl, .head _, hmod, hd4, hk.mono Sub.refl.consR⟩
end

section
open PySem.Calls PyProof.V
variable {c : Cx} {ns : List Str} {n : Nat} {Γ : Nat → FnT} {ρ : List SV}
theorem o2_1 {op : Op2} (h : (o2 op == 1) = true) : op = .mx := by cases op <;> first | exact rfl | exact bad h rfl
theorem o2_2 {op : Op2} (h : (o2 op == 2) = true) : op = .mn := by cases op <;> first | exact rfl | exact bad h rfl
theorem o1_1 {op : Op1} (h : (o1 op == 1) = true) : op = .it0 := by cases op <;> first | exact rfl | exact bad h rfl
theorem o1_2 {op : Op1} (h : (o1 op == 2) = true) : op = .it1 := by cases op <;> first | exact rfl | exact bad h rfl
theorem o1_3 {op : Op1} (h : (o1 op == 3) = true) : op = .abs := by cases op <;> first | exact rfl | exact bad h rfl
theorem o1_4 {op : Op1} (h : (o1 op == 4) = true) : op = .mxL := by cases op <;> first | exact rfl | exact bad h rfl
theorem o1_5 {op : Op1} (h : (o1 op == 5) = true) : op = .mnL := by cases op <;> first | exact rfl | exact bad h rfl
theorem o1_6 {op : Op1} (h : (o1 op == 6) = true) : op = .one := by cases op <;> first | exact rfl | exact bad h rfl
theorem orE {P : Prop} {a b : Bool} (h : (a || b) = true) (h1 : a = true → P) (h2 : b = true → P) : P := (Bool.or_eq_true_iff.mp h).elim h1 h2
theorem s_gk {x : Str} {i : Int} {k : Nat} {p : Pos} {K : SV → Prop} (C : Ctx c ns n Γ) (hk : k < 2) (h : gOk c.cs i k x = true) (hK : K (.int i)) : EvS c ns ρ (.Name x p) K := by
  rw [show i = gval k from eq_of_beq (and3 h).1] at hK
  rw [show x = gnam k from eq_of_beq (and3 (and3 h).2).1]; exact s_gint C hk (and3 (and3 h).2).2 hK
theorem s_lit {e : Expr} {sv : SV} {K : SV → Prop} (C : Ctx c ns n Γ) (h : litOk c.cs sv (view e) = true) (hK : K sv) : EvS c ns ρ e K := by
  cases sv with
  | none => obtain ⟨q, n, p, rfl, h⟩ := in_const h; rw [in_cN h]; exact s_none hK
  | bool b => obtain ⟨q, n, p, rfl, h⟩ := in_const h; rw [in_cB h]; exact s_bool hK
  | int i =>
    refine orE h (fun h => ?_) fun h => ?_
    · obtain ⟨q, n, p, rfl, h⟩ := in_const h; rw [in_cI h]; exact s_int hK
    · obtain ⟨x, p, rfl, h⟩ := in_name h
      exact orE h (fun h => s_gk C (by decide) h hK) fun h => s_gk C (by decide) h hK
  | str k => obtain ⟨q, n, p, rfl, h2⟩ := in_const (and3 h).2; rw [in_cS h2]; exact s_str (of_decide_eq_true (and3 h).1) hK
  | _ => exact bad h rfl
theorem ar_tr {op : Op2} {o : Operator} (h : arOf op = some o) (k : tr2 op = true) : False := by
  exact arOf_elim (P := fun op _ => tr2 op = true → False) nofun nofun nofun nofun nofun h k
theorem s_twB {e : Expr} {op : Op2} {A B : Expr → Bool} {K : SV → Prop} {P : SV → Prop} (h0 : gBin (fun l o r => decide (arOf op = some o) && (A l && B r)) (view e) = true) (h1 : ∀ l, A l = true → EvS c ns ρ l P) (h2 : ∀ r, B r = true → ∀ sa, P sa → EvS c ns ρ r fun sb => biS op sa sb K) :
    EvS c ns ρ e K ∧ (tr2 op = true → TrS c ns ρ e K) := by
  obtain ⟨l, o, r, p, rfl, h⟩ := in_bin h0
  have ho := of_decide_eq_true (and3 h).1
  have k := and3 (and3 h).2
  exact ⟨s_bin ho (h1 l k.1) (h2 r k.2), fun ht => (ar_tr ho ht).elim⟩
theorem s_twC {e : Expr} {op : Op2} {A B : Expr → Bool} {K : SV → Prop} {P : SV → Prop} (C : Ctx c ns n Γ) (h0 : gCmp (fun l os rs => l1 (fun o => l1 (fun r => decide (cmOf op = some o) && (A l && B r)) rs) os) (view e) = true) (h1 : ∀ l, A l = true → EvS c ns ρ l P) (h2 : ∀ r, B r = true → ∀ sa, P sa → EvS c ns ρ r fun sb => biS op sa sb K) :
    EvS c ns ρ e K ∧ (tr2 op = true → TrS c ns ρ e K) := by
  obtain ⟨l, os, rs, p, rfl, ha⟩ := in_cmp h0
  clear h0
  obtain ⟨o, rfl, hb⟩ := in_l1 ha
  clear ha
  obtain ⟨r, rfl, h⟩ := in_l1 hb
  have ho := of_decide_eq_true (and3 h).1
  have k := and3 (and3 h).2
  exact ⟨s_cmp C ho (h1 l k.1) (h2 r k.2), fun _ => t_cmp C ho (h1 l k.1) (h2 r k.2)⟩
theorem s_mm {op : Op2} {f x y : Expr} {p : Pos} {K : SV → Prop} {P : SV → Prop} (C : Ctx c ns n Γ) (hk : (o2 op == 1 && nameIs c.cs (bnam 0) f || o2 op == 2 && nameIs c.cs (bnam 1) f) = true) (hx : isStar x = false) (hy : isStar y = false) (h1 : EvS c ns ρ x P) (h2 : ∀ sa, P sa → EvS c ns ρ y fun sb => biS op sa sb K) :
    EvS c ns ρ (.Call f [x, y] [] p) K ∧ (tr2 op = true → TrS c ns ρ (.Call f [x, y] [] p) K) := by
  refine orE hk (fun k => ?_) fun k => ?_
  · clear hk
    obtain ⟨⟨q, rfl⟩, hg⟩ := name_is (and3 k).2
    cases o2_1 (and3 k).1
    exact ⟨s_mx2 C hg hx hy h1 h2, fun ht => bad ht rfl⟩
  · clear hk
    obtain ⟨⟨q, rfl⟩, hg⟩ := name_is (and3 k).2
    cases o2_2 (and3 k).1
    exact ⟨s_mn2 C hg hx hy h1 h2, fun ht => bad ht rfl⟩
theorem s_twL {e : Expr} {op : Op2} {A B : Expr → Bool} {K : SV → Prop} {P : SV → Prop} (C : Ctx c ns n Γ) (h0 : gCall (fun f as kw => kw.isEmpty && l2 (fun x y => ((o2 op == 1 && nameIs c.cs (bnam 0) f || o2 op == 2 && nameIs c.cs (bnam 1) f) && (!isStar x && !isStar y)) && (A x && B y)) as) (view e) = true) (h1 : ∀ l, A l = true → EvS c ns ρ l P) (h2 : ∀ r, B r = true → ∀ sa, P sa → EvS c ns ρ r fun sb => biS op sa sb K) :
    EvS c ns ρ e K ∧ (tr2 op = true → TrS c ns ρ e K) := by
  obtain ⟨f, as, kw, p, rfl, ha⟩ := in_call h0
  clear h0
  obtain ⟨x, y, rfl, h⟩ := in_l2 (and3 ha).2
  rw [List.isEmpty_iff.mp (and3 ha).1]
  have a := and3 (and3 h).1
  have k := and3 (and3 h).2
  exact s_mm C a.1 (bnot (and3 a.2).1) (bnot (and3 a.2).2) (h1 x k.1) (h2 y k.2)
theorem s_two {e : Expr} {op : Op2} {A B : Expr → Bool} {K : SV → Prop} {P : SV → Prop} (C : Ctx c ns n Γ) (h : kTwo op c.cs A B (view e) = true) (h1 : ∀ l, A l = true → EvS c ns ρ l P) (h2 : ∀ r, B r = true → ∀ sa, P sa → EvS c ns ρ r fun sb => biS op sa sb K) :
    EvS c ns ρ e K ∧ (tr2 op = true → TrS c ns ρ e K) :=
  orE h (fun h => s_twB h h1 h2) fun h => orE h (fun h => s_twC C h h1 h2) fun h => s_twL C h h1 h2
theorem onB_bool {K : Bool → Prop} (sv : SV) (h : onB K sv) : ∃ b, sv = .bool b := let ⟨b, e, _⟩ := onB_iff.mp h; ⟨b, e⟩
theorem s_un {x : Expr} {op : Op1} {o : UnaryOp} {p : Pos} {K : SV → Prop} (ho : unOf op = some o) (h1 : EvS c ns ρ x (unS op K)) :
    EvS c ns ρ (.UnaryOp o x p) K ∧ (tr1 op = true → ((∀ sv, unS op K sv → ∃ b, sv = .bool b) → TrS c ns ρ x (unS op K)) → (∀ sv, K sv → ∃ b, sv = .bool b) → TrS c ns ρ (.UnaryOp o x p) K) := by
  cases op <;> cases ho
  · exact ⟨s_neg h1, fun ht => bad ht rfl⟩
  · exact ⟨s_not h1, fun _ h2 _ => t_not (h2 onB_bool)⟩
theorem s_unU {e : Expr} {op : Op1} {A : Expr → Bool} {K : SV → Prop} (h0 : gUn (fun o x => decide (unOf op = some o) && A x) (view e) = true) (h1 : ∀ x, A x = true → EvS c ns ρ x (unS op K)) :
    EvS c ns ρ e K ∧ (tr1 op = true → (∀ x, A x = true → (∀ sv, unS op K sv → ∃ b, sv = .bool b) → TrS c ns ρ x (unS op K)) → (∀ sv, K sv → ∃ b, sv = .bool b) → TrS c ns ρ e K) := by
  obtain ⟨o, x, p, rfl, h⟩ := in_un h0
  have q := s_un (p := p) (of_decide_eq_true (and3 h).1) (h1 x (and3 h).2)
  exact ⟨q.1, fun ht h2 => q.2 ht (h2 x (and3 h).2)⟩
theorem s_unS {e : Expr} {op : Op1} {A : Expr → Bool} {K : SV → Prop} (h0 : gSub (fun x i => (o1 op == 1 && cInt 0 i || o1 op == 2 && cInt 1 i) && A x) (view e) = true) (h1 : ∀ x, A x = true → EvS c ns ρ x (unS op K)) :
    EvS c ns ρ e K ∧ (tr1 op = true → (∀ x, A x = true → (∀ sv, unS op K sv → ∃ b, sv = .bool b) → TrS c ns ρ x (unS op K)) → (∀ sv, K sv → ∃ b, sv = .bool b) → TrS c ns ρ e K) := by
  obtain ⟨x, i, p, rfl, h⟩ := in_sub h0
  clear h0
  have hx := h1 x (and3 h).2
  refine orE (and3 h).1 (fun k => ?_) fun k => ?_
  · obtain ⟨m, q, rfl⟩ := c_int (and3 k).2
    cases o1_1 (and3 k).1
    exact ⟨s_it0 hx, fun ht => bad ht rfl⟩
  · obtain ⟨m, q, rfl⟩ := c_int (and3 k).2
    cases o1_2 (and3 k).1
    exact ⟨s_it1 hx, fun ht => bad ht rfl⟩
theorem s_unB {e : Expr} {op : Op1} {A : Expr → Bool} {K : SV → Prop} (h0 : gBool (fun _ vs _ => o1 op == 6 && l1 A vs) (view e) = true) (h1 : ∀ x, A x = true → EvS c ns ρ x (unS op K)) :
    EvS c ns ρ e K ∧ (tr1 op = true → (∀ x, A x = true → (∀ sv, unS op K sv → ∃ b, sv = .bool b) → TrS c ns ρ x (unS op K)) → (∀ sv, K sv → ∃ b, sv = .bool b) → TrS c ns ρ e K) := by
  obtain ⟨o, vs, p, rfl, h⟩ := in_bool h0
  obtain ⟨x, rfl, hx⟩ := in_l1 (and3 h).2
  cases o1_6 (and3 h).1
  exact ⟨s_one (h1 x hx), fun _ h2 hB => t_one (h2 x hx hB)⟩
theorem s_fn {op : Op1} {f x : Expr} {p : Pos} {K : SV → Prop} (C : Ctx c ns n Γ) (hk : (((o1 op == 3 && nameIs c.cs (bnam 2) f || o1 op == 4 && nameIs c.cs (bnam 0) f) || o1 op == 5 && nameIs c.cs (bnam 1) f)) = true) (hx : isStar x = false) (h : EvS c ns ρ x (unS op K)) :
    EvS c ns ρ (.Call f [x] [] p) K ∧ tr1 op = false := by
  refine orE hk (fun k' => orE k' (fun k => ?_) fun k => ?_) fun k => ?_
  all_goals clear hk
  · clear k'
    obtain ⟨⟨q, rfl⟩, hg⟩ := name_is (and3 k).2
    cases o1_3 (and3 k).1
    exact ⟨s_abs C hg hx h, rfl⟩
  · clear k'
    obtain ⟨⟨q, rfl⟩, hg⟩ := name_is (and3 k).2
    cases o1_4 (and3 k).1
    exact ⟨s_mxL C hg hx h, rfl⟩
  · obtain ⟨⟨q, rfl⟩, hg⟩ := name_is (and3 k).2
    cases o1_5 (and3 k).1
    exact ⟨s_mnL C hg hx h, rfl⟩
theorem s_unL {e : Expr} {op : Op1} {A : Expr → Bool} {K : SV → Prop} (C : Ctx c ns n Γ) (h0 : gCall (fun f as kw => kw.isEmpty && l1 (fun x => (((o1 op == 3 && nameIs c.cs (bnam 2) f || o1 op == 4 && nameIs c.cs (bnam 0) f) || o1 op == 5 && nameIs c.cs (bnam 1) f) && !isStar x) && A x) as) (view e) = true) (h1 : ∀ x, A x = true → EvS c ns ρ x (unS op K)) :
    EvS c ns ρ e K ∧ (tr1 op = true → (∀ x, A x = true → (∀ sv, unS op K sv → ∃ b, sv = .bool b) → TrS c ns ρ x (unS op K)) → (∀ sv, K sv → ∃ b, sv = .bool b) → TrS c ns ρ e K) := by
  obtain ⟨f, as, kw, p, rfl, ha⟩ := in_call h0
  clear h0
  obtain ⟨x, rfl, h⟩ := in_l1 (and3 ha).2
  rw [List.isEmpty_iff.mp (and3 ha).1]
  have a := and3 (and3 h).1
  have k := s_fn (p := p) C a.1 (bnot a.2) (h1 x (and3 h).2)
  exact ⟨k.1, fun ht => bad ht k.2⟩
theorem s_uno {e : Expr} {op : Op1} {A : Expr → Bool} {K : SV → Prop} (C : Ctx c ns n Γ) (h : kUno op c.cs A (view e) = true) (h1 : ∀ x, A x = true → EvS c ns ρ x (unS op K)) :
    EvS c ns ρ e K ∧ (tr1 op = true → (∀ x, A x = true → (∀ sv, unS op K sv → ∃ b, sv = .bool b) → TrS c ns ρ x (unS op K)) → (∀ sv, K sv → ∃ b, sv = .bool b) → TrS c ns ρ e K) :=
  orE h (fun h => s_unU h h1) fun h => orE h (fun h => s_unS h h1) fun h => orE h (fun h => s_unB h h1) fun h => s_unL C h h1
structure SE (c : Cx) (ns : List Str) (n : Nat) (Γ : Nat → FnT) (ρ : List SV) (ie : IE) : Prop where
  ev : ∀ e K, chkE ⟨ns, c.cs, n⟩ ie e = true → wpE Γ ρ ie K → EvS c ns ρ e K
  tr : ∀ e K, trOk ie = true → chkE ⟨ns, c.cs, n⟩ ie e = true → (∀ sv, K sv → ∃ b, sv = .bool b) → wpE Γ ρ ie K → TrS c ns ρ e K
  ar : ∀ es K, chkA ⟨ns, c.cs, n⟩ ie es = true → wpE Γ ρ ie K → ArS c ns ρ es K
  pr : ∀ ks vs K, chkP ⟨ns, c.cs, n⟩ ie ks vs = true → wpE Γ ρ ie K → PrS c ns ρ ks vs K
theorem se_mk {ie : IE} (h1 : ∀ e K, chkE ⟨ns, c.cs, n⟩ ie e = true → wpE Γ ρ ie K → EvS c ns ρ e K) (h2 : ∀ e K, trOk ie = true → chkE ⟨ns, c.cs, n⟩ ie e = true → (∀ sv, K sv → ∃ b, sv = .bool b) → wpE Γ ρ ie K → TrS c ns ρ e K)
    (h3 : chkA ⟨ns, c.cs, n⟩ ie = noA) (h4 : chkP ⟨ns, c.cs, n⟩ ie = noP) : SE c ns n Γ ρ ie :=
  ⟨h1, h2, fun es K h => (by rw [h3] at h; cases h), fun ks vs K h => (by rw [h4] at h; cases h)⟩
theorem se_mk0 {ie : IE} (h1 : ∀ e K, chkE ⟨ns, c.cs, n⟩ ie e = true → wpE Γ ρ ie K → EvS c ns ρ e K) (h2 : trOk ie = false)
    (h3 : chkA ⟨ns, c.cs, n⟩ ie = noA) (h4 : chkP ⟨ns, c.cs, n⟩ ie = noP) : SE c ns n Γ ρ ie := se_mk h1 (fun e K h => by rw [h2] at h; cases h) h3 h4
theorem se_var {i : Nat} (C : Ctx c ns n Γ) : SE c ns n Γ ρ (.var i) :=
  se_mk (fun e K h hw => by
    obtain ⟨x, p, rfl, h⟩ := in_name (show kName ⟨ns, c.cs, n⟩ i (view e) = true from h)
    rw [← eq_of_beq (and3 h).2]; exact s_var C.loc (of_decide_eq_true (and3 h).1) hw) (fun e K _ h hB hw => by
    obtain ⟨x, p, rfl, h⟩ := in_name (show kName ⟨ns, c.cs, n⟩ i (view e) = true from h)
    rw [← eq_of_beq (and3 h).2]; exact t_plain rfl hB (s_var C.loc (of_decide_eq_true (and3 h).1) hw)) rfl rfl
theorem se_un {op : Op1} {a : IE} (C : Ctx c ns n Γ) (ih : SE c ns n Γ ρ a) : SE c ns n Γ ρ (.un op a) :=
  se_mk (fun e K h hw => (s_uno (op := op) (A := chkE ⟨ns, c.cs, n⟩ a) C h fun x hx => ih.ev _ _ hx hw).1)
    (fun e K ht h hB hw => (s_uno (op := op) (A := chkE ⟨ns, c.cs, n⟩ a) C h fun x hx => ih.ev _ _ hx hw).2 (and3 ht).1 (fun x hx hb => ih.tr _ _ (and3 ht).2 hx hb hw) hB) rfl rfl
theorem se_bi {op : Op2} {a b : IE} (C : Ctx c ns n Γ) (ih1 : SE c ns n Γ ρ a) (ih2 : SE c ns n Γ ρ b) : SE c ns n Γ ρ (.bi op a b) :=
  have key : ∀ e K, chkE ⟨ns, c.cs, n⟩ (.bi op a b) e = true → wpE Γ ρ (.bi op a b) K → EvS c ns ρ e K ∧ (tr2 op = true → TrS c ns ρ e K) := fun e K h hw =>
    s_two (op := op) (A := chkE ⟨ns, c.cs, n⟩ a) (B := chkE ⟨ns, c.cs, n⟩ b) C h (fun x hx => ih1.ev _ _ hx hw) fun y hy sa hP => ih2.ev _ _ hy hP
  se_mk (fun e K h hw => (key e K h hw).1) (fun e K ht h _ hw => (key e K h hw).2 ht) rfl rfl
theorem se_key {d k : IE} (ih1 : SE c ns n Γ ρ d) (ih2 : SE c ns n Γ ρ k) : SE c ns n Γ ρ (.key d k) :=
  se_mk0 (fun e K h hw => by
    obtain ⟨x, i, p, rfl, h⟩ := in_sub (show kKey (chkE ⟨ns, c.cs, n⟩ d) (chkE ⟨ns, c.cs, n⟩ k) (view e) = true from h)
    exact s_key (bnot (and3 h).1) (ih1.ev _ _ (and3 (and3 h).2).1 hw) fun e hP => ih2.ev _ _ (and3 (and3 h).2).2 hP) rfl rfl rfl
theorem bo_is {i : Bool} {A B : Expr → Bool} {e : Expr} (h : kBo i A B (view e) = true) : ∃ x y r p, e = .BoolOp (bopOf i) (x :: y :: r) p ∧ A x = true ∧ B (.BoolOp (bopOf i) (y :: r) p) = true := by
  obtain ⟨o, vs, p, rfl, h⟩ := in_bool h
  obtain ⟨x, y, r, rfl, h3⟩ := in_c2 (and3 h).2
  have ho := of_decide_eq_true (and3 h).1
  subst ho
  exact ⟨x, y, r, p, rfl, (and3 h3).1, (and3 h3).2⟩
theorem se_bo {i : Bool} {a b : IE} (ih1 : SE c ns n Γ ρ a) (ih2 : SE c ns n Γ ρ b) : SE c ns n Γ ρ (.bo i a b) :=
  se_mk (fun e K h hw => by
    obtain ⟨x, y, r, p, rfl, h1, h2⟩ := bo_is (show kBo i (chkE ⟨ns, c.cs, n⟩ a) (chkE ⟨ns, c.cs, n⟩ b) (view e) = true from h)
    cases i
    · exact s_or (ih1.ev _ _ h1 hw) fun hP => ih2.ev _ _ h2 hP
    · exact s_and (ih1.ev _ _ h1 hw) fun hP => ih2.ev _ _ h2 hP) (fun e K ht h hB hw => by
    obtain ⟨x, y, r, p, rfl, h1, h2⟩ := bo_is (show kBo i (chkE ⟨ns, c.cs, n⟩ a) (chkE ⟨ns, c.cs, n⟩ b) (view e) = true from h)
    cases i
    · exact t_or (ih1.tr _ _ (and3 ht).1 h1 onB_bool hw) fun hP => ih2.tr _ _ (and3 ht).2 h2 hB hP
    · exact t_and (ih1.tr _ _ (and3 ht).1 h1 onB_bool hw) fun hP => ih2.tr _ _ (and3 ht).2 h2 hB hP) rfl rfl
theorem se_ite {t a b : IE} (ih : SE c ns n Γ ρ t) (ih1 : SE c ns n Γ ρ a) (ih2 : SE c ns n Γ ρ b) : SE c ns n Γ ρ (.ite t a b) :=
  se_mk0 (fun e K h hw => by
    obtain ⟨x, y, z, p, rfl, h⟩ := in_ife (show kIte (trOk t) (chkE ⟨ns, c.cs, n⟩ t) (chkE ⟨ns, c.cs, n⟩ a) (chkE ⟨ns, c.cs, n⟩ b) (view e) = true from h)
    exact s_ite (ih.tr _ _ (and3 (and3 h).1).1 (and3 (and3 h).1).2 onB_bool hw) (fun hP => ih1.ev _ _ (and3 (and3 h).2).1 hP) (fun hP => ih2.ev _ _ (and3 (and3 h).2).2 hP)) rfl rfl rfl
theorem se_tup {a b : IE} (ih1 : SE c ns n Γ ρ a) (ih2 : SE c ns n Γ ρ b) : SE c ns n Γ ρ (.tup a b) :=
  se_mk0 (fun e K h hw => by
    obtain ⟨es, k, p, rfl, h⟩ := in_tup (show kTup (chkE ⟨ns, c.cs, n⟩ a) (chkE ⟨ns, c.cs, n⟩ b) (view e) = true from h)
    obtain ⟨x, y, rfl, h⟩ := in_l2 h
    exact s_tup (bnot (and3 (and3 h).1).1) (bnot (and3 (and3 h).1).2) (ih1.ev _ _ (and3 (and3 h).2).1 hw) fun sa hP => ih2.ev _ _ (and3 (and3 h).2).2 hP) rfl rfl rfl
theorem call_is {ck : Ck} {f : Nat} {A : List Expr → Bool} {e : Expr} (h : kCall ck f A (view e) = true) : ∃ es q p, e = .Call (.Name (fnam f) q) es [] p ∧ f < ck.n ∧ globOk ck.cs (fnam f) = true ∧ A es = true := by
  obtain ⟨g, es, kw, p, rfl, h⟩ := in_call h
  rw [List.isEmpty_iff.mp (and3 h).1]
  have h12 := and3 (and3 (and3 h).2).1
  obtain ⟨⟨q, rfl⟩, hg⟩ := name_is h12.2
  exact ⟨es, q, p, rfl, of_decide_eq_true h12.1, hg, (and3 (and3 h).2).2⟩
theorem se_call {f : Nat} {as : IE} (C : Ctx c ns n Γ) (ih : SE c ns n Γ ρ as) : SE c ns n Γ ρ (.call f as) :=
  have ev : ∀ es q p K, f < n → globOk c.cs (fnam f) = true → chkA ⟨ns, c.cs, n⟩ as es = true → wpE Γ ρ (.call f as) K → EvS c ns ρ (.Call (.Name (fnam f) q) es [] p) K := by
    intro es q p K hf hg ha hw
    refine s_call C hf hg (fun p => star_plain ha) (fun e r he => ?_) (ih.ar _ _ ha hw)
    subst he
    rcases chkA_inv ha with ⟨_, h⟩ | ⟨_, _, _, _, _, _, he, hx, _, hr⟩
    · cases h
    · cases he
      exact ⟨hx, fun p => star_plain hr⟩
  se_mk (fun e K h hw => by
    obtain ⟨es, q, p, rfl, hf, hg, ha⟩ := call_is (show kCall ⟨ns, c.cs, n⟩ f (chkA ⟨ns, c.cs, n⟩ as) (view e) = true from h)
    exact ev es q p K hf hg ha hw) (fun e K _ h hB hw => by
    obtain ⟨es, q, p, rfl, hf, hg, ha⟩ := call_is (show kCall ⟨ns, c.cs, n⟩ f (chkA ⟨ns, c.cs, n⟩ as) (view e) = true from h)
    exact t_plain rfl hB (ev es q p K hf hg ha hw)) rfl rfl
theorem se_lst {as : IE} (ih : SE c ns n Γ ρ as) : SE c ns n Γ ρ (.lst as) :=
  se_mk0 (fun e K h hw => by
    obtain ⟨es, p, rfl, h⟩ := in_list (show kLst (chkA ⟨ns, c.cs, n⟩ as) (view e) = true from h)
    exact s_lst (of_decide_eq_true (and3 h).1) (ih.ar _ _ (and3 h).2 hw)) rfl rfl rfl
theorem se_dict {as : IE} (C : Ctx c ns n Γ) (ih : SE c ns n Γ ρ as) : SE c ns n Γ ρ (.dict as) :=
  se_mk0 (fun e K h hw => by
    obtain ⟨ks, vs, p, rfl, h⟩ := in_dict (show kDict (chkP ⟨ns, c.cs, n⟩ as) (view e) = true from h)
    obtain ⟨h1, h2⟩ := and3 h
    obtain ⟨h15, h0⟩ := of_decide_eq_true h1
    obtain ⟨a1, a2, a3⟩ := pairs_ok h2
    exact s_dict C a1 a2 a3 h0 h15 (ih.pr _ _ _ h2 hw)) rfl rfl rfl
theorem se_anil : SE c ns n Γ ρ .anil where
  ev _ _ h := bad h rfl
  tr _ _ _ h := bad h rfl
  ar es K h hw := by rw [List.isEmpty_iff.mp (show es.isEmpty = true from h)]; exact a_nil hw
  pr ks vs K h hw := by
    have h := and3 (show (ks.isEmpty && vs.isEmpty) = true from h)
    rw [List.isEmpty_iff.mp h.1, List.isEmpty_iff.mp h.2]; exact p_nil hw
theorem se_acons {k : Nat} {a r : IE} (ih1 : SE c ns n Γ ρ a) (ih2 : SE c ns n Γ ρ r) : SE c ns n Γ ρ (.acons k a r) where
  ev _ _ h := bad h rfl
  tr _ _ _ h := bad h rfl
  ar es K h hw := by
    cases es with
    | nil => exact bad h rfl
    | cons x xs =>
      have h := and3 (show (!isStar x && (chkE ⟨ns, c.cs, n⟩ a x && chkA ⟨ns, c.cs, n⟩ r xs)) = true from h)
      exact a_cons (bnot h.1) (ih1.ev _ _ (and3 h.2).1 hw) fun v hP => ih2.ar _ _ (and3 h.2).2 hP
  pr ks vs K h hw := by
    cases ks with
    | nil => exact bad h rfl
    | cons q ks =>
      cases vs with
      | nil => exact bad h rfl
      | cons v vs =>
        have h := and3 (show (kKeyStr k q && (chkE ⟨ns, c.cs, n⟩ a v && chkP ⟨ns, c.cs, n⟩ r ks vs)) = true from h)
        obtain ⟨m, p, rfl⟩ := key_str h.1
        exact p_cons (ih1.ev _ _ (and3 h.2).1 hw) fun v hP => ih2.pr _ _ _ (and3 h.2).2 hP
theorem se_all (C : Ctx c ns n Γ) (ie : IE) : SE c ns n Γ ρ ie :=
  IE.rec (motive := fun ie => SE c ns n Γ ρ ie) (fun _ => se_var C) (fun v => se_mk0 (fun e K h hw => s_lit C h hw) rfl rfl rfl) (fun _ _ ih => se_un C ih) (fun _ _ _ h1 h2 => se_bi C h1 h2) (fun _ _ h1 h2 => se_key h1 h2) (fun _ _ _ h1 h2 => se_bo h1 h2) (fun _ _ _ h h1 h2 => se_ite h h1 h2)
    (fun _ _ h1 h2 => se_tup h1 h2) (fun _ _ h => se_call C h) (fun _ h => se_lst h) (fun _ h => se_dict C h) se_anil (fun _ _ _ h1 h2 => se_acons h1 h2) ie
end

set_option genSizeOf false
/-- the own small form of a block -/
inductive IS where
  | done | set (i : Nat) (e : IE) (r : IS) | set2 (i j : Nat) (e : IE) (r : IS) | setD (i : Nat) (as : IE) (r : IS) | setK (i : Nat) (k e : IE) (r : IS) | ifk (c : IE) (i kv : Nat) (r : IS) | freeze (r : IS)
  | ret (e : IE) | cont | ifr (c : IE) (t r : IS) | forr (i : Nat) (st : List Nat) (it : IE) (b r : IS) | ford (i D : Nat) (st : List Nat) (it : IE) (b r : IS)
noncomputable def frz : SV → SV | .dct e => .fdct e | x => x
noncomputable def froz (ρ : List SV) : List SV := ρ.map frz
noncomputable def isD : SV → Bool | .dct _ => true | _ => false
noncomputable def hasD : List SV → Bool | [] => false | x :: r => isD x || hasD r
noncomputable def okD (ρ : List SV) (i : Nat) (d : SV) : Bool := !hasD (upd ρ i .undef) && decide ((dkeys d).length ≤ 64)
noncomputable def onD (K : SV → Prop) : SV → Prop | .dct e => K e | _ => False
noncomputable def atom : SV → Bool | .bool _ => true | .int _ => true | .none => true | .str _ => true | _ => false
noncomputable def atoms : SV → Bool | .dnil => true | .dcons _ x r => atom x && atoms r | _ => false
noncomputable def allN (P : SV → Prop) : List Nat → Prop | [] => True | k :: r => P (.str k) ∧ allN P r
noncomputable def allK (P : SV → Prop) (e : SV) : Prop := SV.rec (motive := fun _ => Prop) True True (fun _ => True) (fun _ => True) (fun _ => True) (fun _ _ _ _ => True) (fun _ => True) (fun _ => True) True (fun k _ _ _ r => P (.str k) ∧ r) (fun _ _ => True) (fun _ _ => True) e
noncomputable def allI (P : SV → Prop) : SV → Prop
  | .ints l => ∀ n ∈ l, P (.int n)
  | .strs l => allN P l
  | .fdct e => allK P e
  | _ => False
noncomputable def itemsOf (K : List SV → Prop) : SV → Prop
  | .strs l => K (l.map SV.str)
  | .tup a b => (flat a && flat b) = true ∧ K [a, b]
  | _ => False
noncomputable def unr (body : SV → SV → (SV → Prop) → Prop) (fin : SV → Prop) : List SV → SV → Prop
  | [], d => fin d
  | a :: as, d => body a d (unr body fin as)
abbrev Kn := List SV → Prop
noncomputable def wpS (Γ : Nat → FnT) (is : IS) : List SV → Kn → (SV → Prop) → Kn → Prop :=
  IS.rec (motive := fun _ => List SV → Kn → (SV → Prop) → Kn → Prop)
    (fun ρ nx _ _ => nx ρ)
    (fun i e _ r ρ nx rt ct => wpE Γ (froz ρ) e fun sv => (flat sv || !hasD ρ) = true ∧ r (upd ρ i sv) nx rt ct)
    (fun i j e _ r ρ nx rt ct => wpE Γ (froz ρ) e (onT fun a b => ((flat a && flat b) || !hasD ρ) = true ∧ r (upd (upd ρ i a) j b) nx rt ct))
    (fun i as _ r ρ nx rt ct => hasD ρ = false ∧ wpE Γ (froz ρ) as fun ch => (flat ch && keysOk (dkeys ch)) = true ∧ r (upd ρ i (.dct ch)) nx rt ct)
    (fun i k e _ r ρ nx rt ct => onD (fun d => wpE Γ (froz ρ) e fun sv => flat sv = true ∧ wpE Γ (froz ρ) k (onS fun j => okD ρ i d = true ∧ r (upd ρ i (.dct (dset d j sv))) nx rt ct)) (look ρ i))
    (fun c i kv _ r ρ nx rt ct => wpE Γ (froz ρ) c (onB fun b => onS (fun j => onD (fun d => onB (fun old => okD ρ i d = true ∧ r (upd ρ i (.dct (dset d j (.bool (b || old))))) nx rt ct) (dget d j)) (look ρ i)) (look ρ kv)))
    (fun _ r ρ nx rt ct => r (froz ρ) nx rt ct)
    (fun e ρ _ rt _ => wpE Γ (froz ρ) e rt)
    (fun ρ _ _ ct => ct ρ)
    (fun c _ _ t r ρ nx rt ct => wpE Γ (froz ρ) c (onB fun b => (b = true → t ρ (fun ρ' => r ρ' nx rt ct) rt ct) ∧ (b = false → r ρ nx rt ct)))
    (fun i st it _ _ b r ρ nx rt ct => hasD ρ = false ∧ wpE Γ (froz ρ) it fun sv => allI (fun a => b (upd (forget st 0 ρ) i a) (fun _ => True) rt (fun _ => True)) sv ∧ r (forget (i :: st) 0 ρ) nx rt ct)
    (fun i D st it _ _ b r ρ nx rt ct => wpE Γ (froz ρ) it (itemsOf fun items => onD (fun d => (okD ρ D d && atoms d) = true ∧
        unr (fun a d K => b (upd (upd (forget st 0 ρ) D (.dct d)) i a) (fun ρ' => onD (fun d' => atoms d' = true ∧ K d') (look ρ' D)) rt (fun _ => False)) (fun d => r (upd (forget (i :: st) 0 ρ) D (.dct d)) nx rt ct) items d) (look ρ D)))
    is
section
variable {Γ : Nat → FnT} {ρ : List SV} {nx ct : Kn} {rt : SV → Prop} {r : IS}
theorem u_done : wpS Γ .done ρ nx rt ct = nx ρ := rfl
theorem u_set {i : Nat} {e : IE} : wpS Γ (.set i e r) ρ nx rt ct = wpE Γ (froz ρ) e fun sv => (flat sv || !hasD ρ) = true ∧ wpS Γ r (upd ρ i sv) nx rt ct := rfl
theorem u_set2 {i j : Nat} {e : IE} : wpS Γ (.set2 i j e r) ρ nx rt ct = wpE Γ (froz ρ) e (onT fun a b => ((flat a && flat b) || !hasD ρ) = true ∧ wpS Γ r (upd (upd ρ i a) j b) nx rt ct) := rfl
theorem u_setD {i : Nat} {as : IE} : wpS Γ (.setD i as r) ρ nx rt ct = (hasD ρ = false ∧ wpE Γ (froz ρ) as fun ch => (flat ch && keysOk (dkeys ch)) = true ∧ wpS Γ r (upd ρ i (.dct ch)) nx rt ct) := rfl
theorem u_setK {i : Nat} {k e : IE} : wpS Γ (.setK i k e r) ρ nx rt ct = onD (fun d => wpE Γ (froz ρ) e fun sv => flat sv = true ∧ wpE Γ (froz ρ) k (onS fun j => okD ρ i d = true ∧ wpS Γ r (upd ρ i (.dct (dset d j sv))) nx rt ct)) (look ρ i) := rfl
theorem u_ifk {c : IE} {i kv : Nat} : wpS Γ (.ifk c i kv r) ρ nx rt ct = wpE Γ (froz ρ) c (onB fun b => onS (fun j => onD (fun d => onB (fun old => okD ρ i d = true ∧ wpS Γ r (upd ρ i (.dct (dset d j (.bool (b || old))))) nx rt ct) (dget d j)) (look ρ i)) (look ρ kv)) := rfl
theorem u_freeze : wpS Γ (.freeze r) ρ nx rt ct = wpS Γ r (froz ρ) nx rt ct := rfl
theorem u_ret {e : IE} : wpS Γ (.ret e) ρ nx rt ct = wpE Γ (froz ρ) e rt := rfl
theorem u_cont : wpS Γ .cont ρ nx rt ct = ct ρ := rfl
theorem u_ifr {c : IE} {t : IS} : wpS Γ (.ifr c t r) ρ nx rt ct = wpE Γ (froz ρ) c (onB fun b => (b = true → wpS Γ t ρ (fun ρ' => wpS Γ r ρ' nx rt ct) rt ct) ∧ (b = false → wpS Γ r ρ nx rt ct)) := rfl
theorem u_forr {i : Nat} {st : List Nat} {it : IE} {b : IS} : wpS Γ (.forr i st it b r) ρ nx rt ct = (hasD ρ = false ∧ wpE Γ (froz ρ) it fun sv => allI (fun a => wpS Γ b (upd (forget st 0 ρ) i a) (fun _ => True) rt (fun _ => True)) sv ∧ wpS Γ r (forget (i :: st) 0 ρ) nx rt ct) := rfl
theorem u_ford {i D : Nat} {st : List Nat} {it : IE} {b : IS} : wpS Γ (.ford i D st it b r) ρ nx rt ct = wpE Γ (froz ρ) it (itemsOf fun items => onD (fun d => (okD ρ D d && atoms d) = true ∧
        unr (fun a d K => wpS Γ b (upd (upd (forget st 0 ρ) D (.dct d)) i a) (fun ρ' => onD (fun d' => atoms d' = true ∧ K d') (look ρ' D)) rt (fun _ => False)) (fun d => wpS Γ r (upd (forget (i :: st) 0 ρ) D (.dct d)) nx rt ct) items d) (look ρ D)) := rfl
end
/-- the parts of a statement that the checker looks at -/
inductive TV where
  | asg (t v : Expr) | ret (e : Expr) | iff (c : Expr) (b : List Stmt) | loop (x : Str) (it : Expr) (b : List Stmt) | cont | other
noncomputable def asgV (v : Expr) : List Expr → TV | [] => .other | t :: r => List.casesOn r (.asg t v) fun _ _ => .other
noncomputable def retV : Option Expr → TV | some e => .ret e | none => .other
noncomputable def iffV (c : Expr) (b : List Stmt) : List Stmt → TV | [] => .iff c b | _ :: _ => .other
noncomputable def lopV (it : Expr) (b : List Stmt) : EV → TV | .name x => .loop x it b | _ => .other
noncomputable def lopE (t it : Expr) (b : List Stmt) : List Stmt → TV | [] => lopV it b (view t) | _ :: _ => .other
noncomputable def viewS (s : Stmt) : TV := match s with
  | .Assign ts v _ => asgV v ts | .Return o _ => retV o | .If c b el _ => iffV c b el | .For t it b el _ => lopE t it b el | .Continue _ => .cont | _ => .other
noncomputable def BackS (v : TV) (s : Stmt) : Prop := TV.rec (motive := fun _ => Prop) (fun t v => ∃ p, s = .Assign [t] v p) (fun e => ∃ p, s = .Return (some e) p) (fun c b => ∃ p, s = .If c b [] p) (fun x it b => ∃ q p, s = .For (.Name x q) it b [] p) (∃ p, s = .Continue p) True v
theorem lopV_ok {t it : Expr} {b : List Stmt} {p : Pos} : BackS (lopV it b (view t)) (.For t it b [] p) := by
  have h := view_ok t
  generalize view t = v at h ⊢
  cases v with
  | name x => obtain ⟨q, rfl⟩ := h; exact ⟨_, _, rfl⟩
  | _ => exact True.intro
theorem viewS_ok (s : Stmt) : BackS (viewS s) s := by
  cases s with
  | Assign ts v p =>
    cases ts with
    | nil => exact True.intro
    | cons t r => cases r <;> first | exact ⟨_, rfl⟩ | exact True.intro
  | Return o p => cases o <;> first | exact ⟨_, rfl⟩ | exact True.intro
  | If c b el p => cases el <;> first | exact ⟨_, rfl⟩ | exact True.intro
  | For t it b el p => cases el <;> first | exact lopV_ok | exact True.intro
  | Continue p => exact ⟨_, rfl⟩
  | _ => exact True.intro
noncomputable def notComp (e : Expr) : Bool := match e with | .ListComp _ _ _ _ => false | .SetComp _ _ _ _ => false | .DictComp _ _ _ _ _ => false | .Tuple _ _ _ => false | .List _ _ => false | .Set _ _ _ => false | _ => true
noncomputable def notSet (e : Expr) : Bool := match e with | .Set _ _ _ => false | _ => true
noncomputable def okVal (e : Expr) : Bool := match e with | .ListComp _ _ _ _ => false | .SetComp _ _ _ _ => false | .DictComp _ _ _ _ _ => false | _ => true
noncomputable def gAsg (F : Expr → Expr → Bool) (v : TV) : Bool := TV.rec (motive := fun _ => Bool) F (fun _ => false) (fun _ _ => false) (fun _ _ _ => false) false false v
theorem in_asg {F : Expr → Expr → Bool} {s : Stmt} (h : gAsg F (viewS s) = true) : ∃ t v p, s = .Assign [t] v p ∧ F t v = true := by
  have hb := viewS_ok s
  generalize viewS s = w at h hb
  cases w with
  | asg t v => obtain ⟨p, rfl⟩ := hb; exact ⟨t, v, p, rfl, h⟩
  | _ => exact bad h rfl
noncomputable def gRet (F : Expr → Bool) (v : TV) : Bool := TV.rec (motive := fun _ => Bool) (fun _ _ => false) F (fun _ _ => false) (fun _ _ _ => false) false false v
theorem in_ret {F : Expr → Bool} {s : Stmt} (h : gRet F (viewS s) = true) : ∃ e p, s = .Return (some e) p ∧ F e = true := by
  have hb := viewS_ok s
  generalize viewS s = w at h hb
  cases w with
  | ret e => obtain ⟨p, rfl⟩ := hb; exact ⟨e, p, rfl, h⟩
  | _ => exact bad h rfl
noncomputable def gIff (F : Expr → List Stmt → Bool) (v : TV) : Bool := TV.rec (motive := fun _ => Bool) (fun _ _ => false) (fun _ => false) F (fun _ _ _ => false) false false v
theorem in_iff {F : Expr → List Stmt → Bool} {s : Stmt} (h : gIff F (viewS s) = true) : ∃ c b p, s = .If c b [] p ∧ F c b = true := by
  have hb := viewS_ok s
  generalize viewS s = w at h hb
  cases w with
  | iff c b => obtain ⟨p, rfl⟩ := hb; exact ⟨c, b, p, rfl, h⟩
  | _ => exact bad h rfl
noncomputable def gLoop (F : Str → Expr → List Stmt → Bool) (v : TV) : Bool := TV.rec (motive := fun _ => Bool) (fun _ _ => false) (fun _ => false) (fun _ _ => false) F false false v
theorem in_loop {F : Str → Expr → List Stmt → Bool} {s : Stmt} (h : gLoop F (viewS s) = true) : ∃ x it b q p, s = .For (.Name x q) it b [] p ∧ F x it b = true := by
  have hb := viewS_ok s
  generalize viewS s = w at h hb
  cases w with
  | loop x it b => obtain ⟨q, p, rfl⟩ := hb; exact ⟨x, it, b, q, p, rfl, h⟩
  | _ => exact bad h rfl
noncomputable def gCont (F : Bool) (v : TV) : Bool := TV.rec (motive := fun _ => Bool) (fun _ _ => false) (fun _ => false) (fun _ _ => false) (fun _ _ _ => false) F false v
theorem in_cont {F : Bool} {s : Stmt} (h : gCont F (viewS s) = true) : ∃  p, s = .Continue p ∧ F  = true := by
  have hb := viewS_ok s
  generalize viewS s = w at h hb
  cases w with
  | cont  => obtain ⟨p, rfl⟩ := hb; exact ⟨p, rfl, h⟩
  | _ => exact bad h rfl
noncomputable def isVar (c : Ck) (i : Nat) (e : Expr) : Bool := kName c i (view e)
noncomputable def kSet (c : Ck) (al : List Nat) (i : Nat) (a : Expr → Bool) : TV → Bool := gAsg fun t v => (al.contains i && isVar c i t) && (okVal v && a v)
noncomputable def tup2V (c : Ck) (i j : Nat) : EV → Bool := gTup (l2 fun x y => isVar c i x && isVar c j y)
noncomputable def kSet2 (c : Ck) (al : List Nat) (i j : Nat) (a : Expr → Bool) : TV → Bool := gAsg fun t v => ((al.contains i && al.contains j) && tup2V c i j (view t)) && (notComp v && a v)
noncomputable def subV (c : Ck) (i : Nat) (k : Expr → Bool) : EV → Bool := gSub fun o x => isVar c i o && k x
noncomputable def kSetK (c : Ck) (i : Nat) (k a : Expr → Bool) : TV → Bool := gAsg fun t v => subV c i k (view t) && (okVal v && a v)
noncomputable def kIfkB (c : Ck) (i kv : Nat) : List Stmt → Bool := l1 fun s => gAsg (fun t v => subV c i (isVar c kv) (view t) && gConst (cB true) (view v)) (viewS s)
noncomputable def kIfk (c : Ck) (i kv : Nat) (ok : Bool) (a : Expr → Bool) : TV → Bool := gIff fun t b => (ok && a t) && kIfkB c i kv b
noncomputable def kRet (a : Expr → Bool) : TV → Bool := gRet a
noncomputable def kIf (ok : Bool) (a : Expr → Bool) (b : List Stmt → Bool) : TV → Bool := gIff fun t ss => (ok && a t) && b ss
noncomputable def kCont : TV → Bool := gCont true
noncomputable def kFor (c : Ck) (al st : List Nat) (i : Nat) (a : Expr → Bool) (b : List Stmt → Bool) : TV → Bool :=
  gLoop fun x it ss => ((decide (i < c.ns.length) && (nameAt c.ns i == x)) && ((al.contains i && !st.contains i) && st.all (fun j => al.contains j && decide (j < c.ns.length)))) && ((notSet it && a it) && b ss)
noncomputable def kFord (c : Ck) (al st : List Nat) (i D : Nat) (a : Expr → Bool) (b : List Stmt → Bool) (v : TV) : Bool := ((!st.contains D && decide (D < c.ns.length)) && decide (i ≠ D)) && kFor c al st i a b v
noncomputable def kHead (f : TV → Bool) (r : List Stmt → Bool) : List Stmt → Bool | s :: ss => f (viewS s) && r ss | [] => false
abbrev Ks := List Nat → List Stmt → Bool
noncomputable def chkS (c : Ck) (is : IS) : Ks := IS.rec (motive := fun _ => Ks)
  (fun _ ss => ss.isEmpty)
  (fun i e _ r al => kHead (kSet c al i (chkE c e)) (r al))
  (fun i j e _ r al => kHead (kSet2 c al i j (chkE c e)) (r al))
  (fun i as _ r al => kHead (kSet c al i fun v => kDict (chkP c as) (view v)) (r al))
  (fun i k e _ r al => kHead (kSetK c i (chkE c k) (chkE c e)) (r al))
  (fun t i kv _ r al => kHead (kIfk c i kv (trOk t) (chkE c t)) (r al))
  (fun _ r al => r al)
  (fun e _ => kHead (kRet (chkE c e)) fun _ => true)
  (fun _ => kHead kCont fun _ => true)
  (fun t _ _ b r al => kHead (kIf (trOk t) (chkE c t) (b al)) (r al))
  (fun i st it _ _ b r al => kHead (kFor c al st i (chkE c it) (b st)) (r al))
  (fun i D st it _ _ b r al => kHead (kFord c al st i D (chkE c it) (b st)) (r al))
  is

section
open PyProof.V
theorem stored_hit {k : Str} {u v : Value} {rest : List (Str × Value)} (hn : k ∉ rest.map (·.1)) : stored ((k, u) :: rest) k v = (k, v) :: rest := by
  unfold stored
  rw [if_pos (by simp)]
  simp only [List.map_cons, if_true, List.cons.injEq, true_and]
  refine (List.map_congr_left fun p hp => ?_).trans (List.map_id rest)
  rw [if_neg fun e => hn (List.mem_map.mpr ⟨p, hp, e⟩)]; rfl
theorem stored_miss {k k' : Str} {u v : Value} {rest : List (Str × Value)} (hne : k' ≠ k) : stored ((k', u) :: rest) k v = (k', u) :: stored rest k v := by
  unfold stored
  rw [List.any_cons, show decide (k' = k) = false from decide_eq_false hne, Bool.false_or, List.map_cons]
  split <;> rfl
theorem dset_eq {k : Nat} {y r x : SV} : dset (.dcons k y r) k x = .dcons k x r := by
  show (bif k == k then _ else _) = _
  rw [beq_self_eq_true]; rfl
theorem dset_ne {k j : Nat} {y r x : SV} (h : k ≠ j) : dset (.dcons k y r) j x = .dcons k y (dset r j x) := by
  show (bif k == j then _ else _) = _
  rw [beq_eq_false_iff_ne.mpr h]; rfl
theorem dget_eq {k : Nat} {y r : SV} : dget (.dcons k y r) k = y := by
  show (bif k == k then _ else _) = _
  rw [beq_self_eq_true]; rfl
theorem dget_ne {k j : Nat} {y r : SV} (h : k ≠ j) : dget (.dcons k y r) j = dget r j := by
  show (bif k == j then _ else _) = _
  rw [beq_eq_false_iff_ne.mpr h]; rfl
theorem vrk_set {w : World} {g : LedT} {j : Nat} {x : SV} {v : Value} (hj : j < 13) (hx : VR w g x v) : ∀ {e : SV} {ws : List (Str × Value)}, VRK w g e ws → (ws.map (·.1)).Nodup → VRK w g (dset e j x) (stored ws (strTab j) v) := by
  intro e
  induction e with
  | dnil => intro ws h _; cases h; exact ⟨v, [], rfl, hj, hx, rfl⟩
  | dcons k y r _ ih =>
    rintro ws ⟨u, rest, rfl, hk, h1, h2⟩ hn
    have hn' := List.nodup_cons.mp (show (strTab k :: rest.map (·.1)).Nodup from hn)
    by_cases hkj : k = j
    · subst hkj
      rw [stored_hit hn'.1, dset_eq]
      exact ⟨v, rest, rfl, hk, hx, h2⟩
    · rw [stored_miss fun e => hkj (strTab_inj hk hj e), dset_ne hkj]
      exact ⟨u, _, rfl, hk, h1, ih h2 hn'.2⟩
  | _ => intro ws h; exact h.elim
theorem vrk_len {w : World} {g : LedT} : ∀ {e : SV} {ws : List (Str × Value)}, VRK w g e ws → ws.length = (dkeys e).length := by
  intro e
  induction e with
  | dnil => intro ws h; cases h; rfl
  | dcons k y r _ ih =>
    rintro ws ⟨u, rest, rfl, hk, h1, h2⟩
    show rest.length + 1 = (dkeys r).length + 1
    rw [ih h2]
  | _ => intro ws h; exact h.elim
theorem flat_set {j : Nat} {x : SV} (hx : flat x = true) : ∀ {e : SV}, flat e = true → (dkeys e).length ≤ 100 → flat (dset e j x) = true ∨ e = .undef := by
  intro e
  induction e with
  | dcons k y r _ ih =>
    intro h hl
    have h' := and3 (show (flat y && flat r) = true from h)
    refine .inl ?_
    by_cases hkj : k = j
    · subst hkj
      rw [dset_eq]
      show (flat x && flat r) = true
      rw [hx, h'.2]; rfl
    · rw [dset_ne hkj]
      show (flat y && flat (dset r j x)) = true
      rcases ih h'.2 (Nat.le_trans (Nat.le_succ _) hl) with q | q
      · rw [h'.1, q]; rfl
      · rw [q] at h'; cases h'.2
  | _ => intro _ _; first | exact .inr rfl | (refine .inl ?_; show (flat x && true) = true; rw [hx]; rfl)
theorem dset_same {j : Nat} {x : SV} (hx : x ≠ .undef) : ∀ {e : SV}, dget e j = x → dset e j x = e := by
  intro e
  induction e with
  | dcons k y r _ ih =>
    intro h
    by_cases hkj : k = j
    · subst hkj
      rw [dget_eq] at h
      rw [dset_eq, h]
    · rw [dget_ne hkj] at h
      rw [dset_ne hkj, ih h]
  | _ => intro h; exact absurd h.symm hx
end
noncomputable def cellL : Option (Addr × Obj) → LedT | some p => [p] | none => []
/-- a value of the frame: the one dict that may still change lies in the cell -/
noncomputable def VC (w : World) (g : LedT) (cell : Option (Addr × Obj)) (sv : SV) (v : Value) : Prop :=
  match sv with
  | .dct e => ∃ D o ws, cell = some (D, o) ∧ v = .ref D ∧ o.IsDictOf (KND w) ws ∧ VRK w g e ws ∧ flat e = true
  | sv => VR w g sv v
structure StR (c : Cx) (ns : List Str) (base : LedT) (ρ : List SV) (g : LedT) (cell : Option (Addr × Obj)) (m : Str → Option Value) (h : Heap) : Prop where
  F : Fr c.h₀ c.L h m
  N : News c.h₀ c.L h (cellL cell ++ g)
  C : ∀ D o, cell = some (D, o) → (∀ q ∈ g, q.1 ≠ D) ∧ (D == sysModules) = false ∧ o.cls = .type "dict"
  B : Sub base g
  R : EnvG (VC c.w g cell) m ns ρ
theorem vc_plain {w : World} {g : LedT} {cell : Option (Addr × Obj)} {sv : SV} {v : Value} (h : isD sv = false) : VC w g cell sv v ↔ VR w g sv v := by
  cases sv <;> first | exact Iff.rfl | cases h
theorem vc_froz {w : World} {g : LedT} {cell : Option (Addr × Obj)} (hc : ∀ D o, cell = some (D, o) → (D == sysModules) = false) {sv : SV} {v : Value} (h : VC w g cell sv v) : VR w (cellL cell ++ g) (frz sv) v := by
  have hs : Sub g (cellL cell ++ g) := Sub.refl.appR
  cases sv with
  | dct e =>
    obtain ⟨D, o, ws, rfl, rfl, hd, hk, _⟩ := h
    exact ⟨D, o, ws, rfl, List.mem_append_left _ (.head _), hc D o rfl, hd, hk.mono hs⟩
  | _ => exact VR.mono hs h
section
variable {c : Cx} {ns : List Str} {base g : LedT} {ρ : List SV} {cell : Option (Addr × Obj)} {m : Str → Option Value} {h : Heap}
theorem StR.env (S : StR c ns base ρ g cell m h) : EnvR c.w (cellL cell ++ g) m ns (froz ρ) :=
  EnvG.map (f := frz) rfl (fun _ _ => vc_froz fun D o e => (S.C D o e).2.1) (fun _ _ => rfl) S.R
theorem noD_of {ρ : List SV} (hd : hasD ρ = false) {V V' : SV → Value → Prop} (hv : ∀ sv v, isD sv = false → V sv v → V' sv v) {m m' : Str → Option Value} : ∀ {ns : List Str}, (∀ x ∈ ns, m' x = m x) → EnvG V m ns ρ → EnvG V' m' ns ρ := by
  induction ρ with
  | nil => intro ns e h; cases ns <;> first | exact h | exact h.elim
  | cons x r ih =>
    intro ns e h
    cases ns with
    | nil => exact h
    | cons y ys =>
      have hd' : isD x = false ∧ hasD r = false := by
        have : (isD x || hasD r) = false := hd
        exact Bool.or_eq_false_iff.mp this
      exact ⟨h.1.imp id fun ⟨v, hm, hr⟩ => ⟨v, (e y (.head _)).trans hm, hv _ _ hd'.1 hr⟩, ih hd'.2 (fun z hz => e z (.tail _ hz)) h.2⟩
/-- behind an evaluation: the new state, and what may be kept of the value -/
theorem StR.grow (S : StR c ns base ρ g cell m h) {h' : Heap} {G : LedT} (F : Fr c.h₀ c.L h' m) (N : News c.h₀ c.L h' G) (hs : Sub (cellL cell ++ g) G) :
    ∃ g' cell', StR c ns base ρ g' cell' m h' ∧ Sub g' G ∧ Sub g g' ∧ (hasD ρ = true → cell' = cell) ∧ (hasD ρ = false → cell' = none) ∧ ∀ sv v, (flat sv || !hasD ρ) = true → VR c.w G sv v → VR c.w g' sv v := by
  cases hd : hasD ρ with
  | false =>
    refine ⟨G, none, ⟨F, N, fun _ _ e => (nomatch e), (S.B.trans Sub.refl.appR).trans hs, ?_⟩, .refl, Sub.refl.appR.trans hs, fun e => (nomatch e), fun _ => rfl, fun _ _ _ h => h⟩
    exact noD_of hd (fun sv v hn hv => (vc_plain hn).mpr (((vc_plain hn).mp hv).mono (Sub.refl.appR.trans hs))) (fun _ _ => rfl) S.R
  | true =>
    cases cell with
    | none =>
      refine ⟨G, none, ⟨F, N, fun _ _ e => (nomatch e), (S.B.trans Sub.refl.appR).trans hs, ?_⟩, .refl, Sub.refl.appR.trans hs, fun _ => rfl, fun _ => rfl, fun _ _ _ h => h⟩
      refine EnvG.imp (fun sv v hv => ?_) (fun _ _ => rfl) S.R
      cases sv with
      | dct e => obtain ⟨D, o, ws, e, _⟩ := hv; cases e
      | _ => exact VR.mono (Sub.refl.appR.trans hs) hv
    | some p =>
      obtain ⟨D, o⟩ := p
      have hm : (D, o) ∈ G := hs _ (List.mem_append_left _ (.head _))
      have hg : Sub g (offD D G) := fun q hq => List.mem_filter.mpr ⟨hs q (List.mem_append_right _ hq), decide_eq_true ((S.C D o rfl).1 q hq)⟩
      refine ⟨offD D G, some (D, o), ⟨F, fun q hq => ?_, fun D' o' e => ?_, S.B.trans hg, ?_⟩, offD_sub, hg, fun _ => rfl, fun e => (nomatch e), fun sv v hf hv => ?_⟩
      · rcases List.mem_append.mp hq with hq | hq
        · rw [List.mem_singleton.mp hq]; exact N _ hm
        · exact N _ (offD_sub q hq)
      · cases e; exact ⟨offD_ne, (S.C D o rfl).2⟩
      · refine EnvG.imp (fun sv v hv => ?_) (fun _ _ => rfl) S.R
        cases sv with
        | dct e => obtain ⟨D', o', ws, e, hv', hd', hk, hf⟩ := hv; exact ⟨D', o', ws, e, hv', hd', hk.mono hg, hf⟩
        | _ => exact VR.mono hg hv
      · have hf' : flat sv = true := by simpa using hf
        refine (hv.drop hf').mono fun q hq => ?_
        obtain ⟨h1, h2⟩ := List.mem_filter.mp hq
        refine List.mem_filter.mpr ⟨h1, decide_eq_true fun e => ?_⟩
        have e1 := (N _ h1).1
        have e2 := (N _ hm).1
        rw [e] at e1
        have h3 := of_decide_eq_true h2
        rw [Option.some.inj (e1.symm.trans e2)] at h3
        exact h3 (S.C D o rfl).2.2
/-- a name set -/
theorem StR.set (S : StR c ns base ρ g cell m h) (hn : ns.Nodup) {i : Nat} (hi : i < ns.length) {sv : SV} {v : Value} (hv : VC c.w g cell sv v) {h' : Heap} (F : Fr c.h₀ c.L h' (fun y => if y = nameAt ns i then some v else m y)) (N : News c.h₀ c.L h' (cellL cell ++ g)) :
    StR c ns base (upd ρ i sv) g cell (fun y => if y = nameAt ns i then some v else m y) h' := ⟨F, N, S.C, S.B, EnvG.upd hv hn hi S.R⟩
end
noncomputable def Alike (s s' : Shared) : Prop := ∃ h tk, s' = { s with heap := h, toks := tk }
theorem Alike.trans {a b d : Shared} (h : Alike a b) (k : Alike b d) : Alike a d := by
  obtain ⟨h1, t1, rfl⟩ := h; obtain ⟨h2, t2, rfl⟩ := k; exact ⟨h2, t2, rfl⟩
noncomputable def Agree (ns : List Str) (al : List Nat) (m m' : Str → Option Value) : Prop := ∀ y, y ∉ al.map (nameAt ns) → m' y = m y
structure PostS (c : Cx) (ns : List Str) (base : LedT) (al : List Nat) (m : Str → Option Value) (s : Shared) (nx : Kn) (rt : SV → Prop) (ct : Kn) (Q : Flow → Shared → Prop) : Prop where
  nx : ∀ ρ' g' cell' m' s', Alike s s' → Agree ns al m m' → StR c ns base ρ' g' cell' m' s'.heap → nx ρ' → Q .next s'
  ct : ∀ ρ' g' cell' m' s', Alike s s' → Agree ns al m m' → StR c ns base ρ' g' cell' m' s'.heap → ct ρ' → Q .cont s'
  rt : ∀ v s' G sv m', Alike s s' → Fr c.h₀ c.L s'.heap m' → News c.h₀ c.L s'.heap G → Sub base G → rt sv → VR c.w G sv v → Q (.ret v) s'
noncomputable def ExS (c : Cx) (ns : List Str) (base : LedT) (al : List Nat) (ρ : List SV) (ss : List Stmt) (nx : Kn) (rt : SV → Prop) (ct : Kn) : Prop :=
  ∀ (Q : Flow → Shared → Prop) (s : Shared) (g : LedT) (cell : Option (Addr × Obj)) (m : Str → Option Value), StR c ns base ρ g cell m s.heap → PostS c ns base al m s nx rt ct Q → wpAny (model PRG c.w) c.A (execs ss c.env) Q NoE s
theorem PostS.step {c : Cx} {ns : List Str} {base : LedT} {al : List Nat} {m m' : Str → Option Value} {s s' : Shared} {nx ct : Kn} {rt : SV → Prop} {Q : Flow → Shared → Prop} (P : PostS c ns base al m s nx rt ct Q) (ha : Alike s s') (hm : Agree ns al m m') : PostS c ns base al m' s' nx rt ct Q :=
  ⟨fun ρ' g' cell' m'' s'' h1 h2 => P.nx ρ' g' cell' m'' s'' (ha.trans h1) (fun y hy => (h2 y hy).trans (hm y hy)), fun ρ' g' cell' m'' s'' h1 h2 => P.ct ρ' g' cell' m'' s'' (ha.trans h1) (fun y hy => (h2 y hy).trans (hm y hy)), fun v s'' G sv m'' h1 => P.rt v s'' G sv m'' (ha.trans h1)⟩

section
open PyProof.V PySem.Spec
variable {prog : Program} {w : World} {A : Around} {E : Value → Shared → Prop} {s : Shared} {env : Env} {h₀ : Heap} {x : Str} {body : List Stmt} {Q : Flow → Shared → Prop} {m₀ : Str → Option Value} {led : LedT}

theorem news_swap {h : Heap} {L : Addr} {a b : LedT} (N : News h₀ L h (a ++ b)) : News h₀ L h (b ++ a) := fun p hp => N p ((List.mem_append.mp hp).elim (fun h => List.mem_append_right _ h) fun h => List.mem_append_left _ h)
theorem turn_swap {L : Addr} {st : List Str} {a b : LedT} {s₁ s₂ : Shared} {f : Flow} (p : TurnPost h₀ L x st m₀ (a ++ b) s₁ Q f s₂) : TurnPost h₀ L x st m₀ (b ++ a) s₁ Q f s₂ := by
  have up : TurnEnd h₀ L x st m₀ (a ++ b) s₁ s₂ → TurnEnd h₀ L x st m₀ (b ++ a) s₁ s₂ := by
    rintro ⟨h', tk, m', news', e, F', N', hn, hm⟩
    exact ⟨h', tk, m', news', e, F', N', fun p hp => hn p ((List.mem_append.mp hp).elim (fun h => List.mem_append_right _ h) fun h => List.mem_append_left _ h), hm⟩
  cases f with
  | ret v => exact p
  | brk => exact p
  | next => exact up p
  | cont => exact up p

theorem iter_listP {l : Addr} {vs : List Value} {nn : Nat} (stored : List Str)
    (hh : A.handled = none) (hl : (l, W.listOf vs.toArray nn) ∈ led) (F : Fr h₀ env.locals s.heap m₀) (N : News h₀ env.locals s.heap led)
    (turn : ∀ v (u : Str → Option Value) h tk own, v ∈ vs → Fr h₀ env.locals h (fun y => if y = x then some v else if stored.contains y then u y else m₀ y) → News h₀ env.locals h (led ++ own) →
      wpAny (model prog w) A (execs body env) (TurnPost h₀ env.locals x stored m₀ (led ++ own) { s with heap := h, toks := tk } Q) E { s with heap := h, toks := tk })
    (done : ∀ (u : Str → Option Value) h tk, Fr h₀ env.locals h (fun y => if y = x then u y else if stored.contains y then u y else m₀ y) → News h₀ env.locals h led → Q .next { s with heap := h, toks := tk }) :
    wpAny (model prog w) A (pyIter (.ref l)) (fun it s₂ => LoopAtV prog w A h₀ env x body Q E it s₂) E s := by
  have hol := (N _ hl).1
  have hls : s.heap.IsList l vs.toArray := ⟨_, hol, rfl, nn, rfl⟩
  have hne : l ≠ s.heap.objs.size := Nat.ne_of_lt (Heap.lt_size hol)
  refine wpAny_pyIter_list hls ?_
  have W := Walks.list (prog := prog) (w := w) hh s.heap.objs.size l hne vs.toArray
  refine loop_at_law stored W ?_ ?_ ?_ ⟨⟨_, Heap.get?_push_size _ rfl, rfl, rfl⟩, hls.at fun o e => Heap.get?_push_of_some _ e⟩ (F.push _) (fun p hp => ⟨Heap.get?_push_of_some _ (N p hp).1, (N p hp).2⟩) ?_ done
  · intro hm
    rcases List.mem_cons.mp hm with e | hm
    · exact absurd F.ns.lt (e ▸ Nat.lt_irrefl _)
    · exact (N _ hl).2.1 (List.mem_singleton.mp hm).symm
  · intro b hb
    rw [List.mem_singleton.mp hb]
    exact next_is_new F
  · intro p hp hI
    exact absurd (Heap.lt_size (N p hp).1) ((List.mem_singleton.mp hI) ▸ Nat.lt_irrefl _)
  · intro i v u h tk own _ hP F₁ N₁
    exact wpAny_mono (turn v u h tk own (List.mem_of_getElem? (by simpa using hP)) F₁ (news_swap N₁)) (fun _ _ p => turn_swap p) fun _ _ e => e

theorem iter_dictP {d : Addr} {o : Obj} {kvs : List (Str × Value)} (stored : List Str)
    (hh : A.handled = none) (hl : (d, o) ∈ led) (hd : o.IsDictOf (PySem.strKind prog w) kvs) (lo : (d == sysModules) = false) (F : Fr h₀ env.locals s.heap m₀) (N : News h₀ env.locals s.heap led)
    (turn : ∀ (k : Str) (t : Tok) (u : Str → Option Value) h tk own, k ∈ kvs.map (·.1) → Fr h₀ env.locals h (fun y => if y = x then some (.str k t) else if stored.contains y then u y else m₀ y) → News h₀ env.locals h (led ++ own) →
      wpAny (model prog w) A (execs body env) (TurnPost h₀ env.locals x stored m₀ (led ++ own) { s with heap := h, toks := tk } Q) E { s with heap := h, toks := tk })
    (done : ∀ (u : Str → Option Value) h tk, Fr h₀ env.locals h (fun y => if y = x then u y else if stored.contains y then u y else m₀ y) → News h₀ env.locals h led → Q .next { s with heap := h, toks := tk }) :
    wpAny (model prog w) A (pyIter (.ref d)) (fun it s₂ => LoopAtV prog w A h₀ env x body Q E it s₂) E s := by
  have hol := (N _ hl).1
  obtain ⟨ep, hat⟩ := (Heap.dictOf_iff.mpr ⟨o, hol, hd⟩ : s.heap.DictOf (PySem.strKind prog w) d kvs).dictAt
  have hne : d ≠ s.heap.objs.size := Nat.ne_of_lt hat.lt_size
  refine wpAny_pyIter_dict lo hat ?_
  have W := Walks.dictKeys (knd := PySem.strKind prog w) hh s.heap.objs.size d hne kvs ep
  refine loop_at_law stored W ?_ ?_ ?_ ⟨⟨_, Heap.get?_push_size _ rfl, rfl, rfl⟩, hat.push _⟩ (F.push _) (fun p hp => ⟨Heap.get?_push_of_some _ (N p hp).1, (N p hp).2⟩) ?_ done
  · intro hm
    rcases List.mem_cons.mp hm with e | hm
    · exact absurd F.ns.lt (e ▸ Nat.lt_irrefl _)
    · exact (N _ hl).2.1 (List.mem_singleton.mp hm).symm
  · intro b hb
    rw [List.mem_singleton.mp hb]
    exact next_is_new F
  · intro p hp hI
    exact absurd (Heap.lt_size (N p hp).1) ((List.mem_singleton.mp hI) ▸ Nat.lt_irrefl _)
  · rintro i v u h tk own _ ⟨k, xv, hx, hkey⟩ F₁ N₁
    obtain ⟨t, rfl⟩ := Value.isStrOf_shape hkey
    exact wpAny_mono (turn k t u h tk own (List.mem_map.mpr ⟨_, List.mem_of_getElem? hx, rfl⟩) F₁ (news_swap N₁)) (fun _ _ p => turn_swap p) fun _ _ e => e

noncomputable def ObjEnd (h₀ : Heap) (L : Addr) (x : Str) (stored : List Str) (m : Str → Option Value) (own : LedT) (g : Obj → LedT) (O : Obj → Prop) (s₁ s₂ : Shared) : Prop :=
  ∃ h' tk m' news' o', s₂ = { s₁ with heap := h', toks := tk } ∧ Fr h₀ L h' m' ∧ News h₀ L h' news' ∧ (∀ p ∈ own ++ g o', p ∈ news') ∧ O o' ∧ ∀ y, y ≠ x → stored.contains y = false → m' y = m y
noncomputable def ObjPost (h₀ : Heap) (L : Addr) (x : Str) (stored : List Str) (m : Str → Option Value) (own : LedT) (g : Obj → LedT) (O : Obj → Prop) (s₁ : Shared) (Q : Flow → Shared → Prop) (f : Flow) (s₂ : Shared) : Prop :=
  match f with
  | .ret v => Q (.ret v) s₂
  | .brk => Q .next s₂
  | _ => ObjEnd h₀ L x stored m own g O s₁ s₂
theorem ObjEnd.intro {L : Addr} {stored : List Str} {m m' : Str → Option Value} {own news' : LedT} {g : Obj → LedT} {O : Obj → Prop} {o' : Obj} {s₁ : Shared} {h' : Heap} {tk : Nat} (F : Fr h₀ L h' m') (N : News h₀ L h' news') (hO : O o') (hn : ∀ p ∈ own ++ g o', p ∈ news')
    (hm : ∀ y, y ≠ x → stored.contains y = false → m' y = m y) : ObjEnd h₀ L x stored m own g O s₁ { s₁ with heap := h', toks := tk } := ⟨h', tk, m', news', o', rfl, F, N, hn, hO, hm⟩

theorem loop_obj {I : Addr} {fp wr : List Addr} {n : Nat} {P : Nat → Value → Prop} {St : Nat → Heap → Prop} (stored : List Str) (g : Obj → LedT) (O : Nat → Obj → Prop) {o₀ : Obj}
    (W : Walks prog w A I fp wr n P St) (hLf : env.locals ∉ fp) (hwr : ∀ b ∈ wr, h₀.get? b = none) (hnw : ∀ o, ∀ p ∈ g o, p.1 ∉ wr) (hst : St 0 s.heap) (F : Fr h₀ env.locals s.heap m₀) (N : News h₀ env.locals s.heap (g o₀)) (hO : O 0 o₀)
    (turn : ∀ i v (u : Str → Option Value) h tk own o, i < n → P i v → O i o → (∀ p ∈ own, p.1 ∈ fp) → Fr h₀ env.locals h (fun y => if y = x then some v else if stored.contains y then u y else m₀ y) → News h₀ env.locals h (own ++ g o) →
      wpAny (model prog w) A (execs body env) (ObjPost h₀ env.locals x stored m₀ own g (O (i + 1)) { s with heap := h, toks := tk } Q) E { s with heap := h, toks := tk })
    (done : ∀ o (u : Str → Option Value) h tk, O n o → Fr h₀ env.locals h (fun y => if y = x then u y else if stored.contains y then u y else m₀ y) → News h₀ env.locals h (g o) → Q .next { s with heap := h, toks := tk }) :
    LoopAtV prog w A h₀ env x body Q E (.ref I) s := by
  let J : Nat → (Str → Option Value) → List (Addr × Obj) → Prop := fun i m₁ news₁ => ∃ o, news₁ = g o ∧ O i o ∧ ∀ y, y ≠ x → stored.contains y = false → m₁ y = m₀ y
  refine ⟨I, fp, wr, n, P, St, m₀, g o₀, J, rfl, W, hLf, hwr, hnw _, hst, F, N, ⟨o₀, rfl, hO, fun _ _ _ => rfl⟩, ?_, ?_⟩
  · rintro i v m₁ news₁ s₁ own ⟨hh', tk', rfl⟩ hin hP ⟨o, rfl, hOi, hJ⟩ hoff hown _ _ _ F₁ N₁
    have e : (fun y => if y = x then some v else m₁ y) = fun y => if y = x then some v else if stored.contains y then m₁ y else m₀ y := by
      funext y
      by_cases h1 : y = x
      · simp [h1]
      · simp only [if_neg h1]
        cases h2 : stored.contains y with
        | true => simp
        | false => simp only [Bool.false_eq_true, if_false]; exact hJ y h1 h2
    rw [e] at F₁
    refine wpAny_mono (turn i v m₁ hh' tk' own o hin hP hOi hown F₁ N₁) (fun f s₂ p => ?_) fun _ _ e => e
    have fin : ObjEnd h₀ env.locals x stored m₀ own g (O (i + 1)) { s with heap := hh', toks := tk' } s₂ → LoopStepU h₀ env.locals wr own (J (i + 1)) { s with heap := hh', toks := tk' } .next s₂ := by
      rintro ⟨h', tk, m', news', o', e, F', N', hn, ho, hm⟩
      exact ⟨rfl, h', tk, m', g o', e, F', fun p hp => N' p (hn p hp), hnw o', o', rfl, ho, hm⟩
    cases f with
    | ret v => exact .ret p
    | brk => exact .brk p
    | next => exact .next (fin p)
    | cont => exact .cont (fin p)
  · rintro h' tk m' news' F' N' _ ⟨o, rfl, hOn, hJ⟩
    refine done o m' h' tk hOn ?_ N'
    have e : (fun y => if y = x then m' y else if stored.contains y then m' y else m₀ y) = m' := by
      funext y
      by_cases h1 : y = x
      · simp [h1]
      · simp only [if_neg h1]
        cases h2 : stored.contains y with
        | true => simp
        | false => simp only [Bool.false_eq_true, if_false]; exact (hJ y h1 h2).symm
    rw [e]; exact F'

end

section
open PySem.Calls PyProof.V
theorem EnvG.undefAt {V : SV → Value → Prop} {m : Str → Option Value} : ∀ {ns : List Str} {ρ : List SV} {i : Nat}, EnvG V m ns ρ → EnvG V m ns (Mine.upd ρ i .undef)
  | [], [], _, h => h
  | _ :: _, _ :: _, 0, h => ⟨.inl rfl, h.2⟩
  | _ :: _, _ :: ρ, n + 1, h => ⟨h.1, EnvG.undefAt (i := n) h.2⟩
  | [], _ :: _, _, h => h.elim
  | _ :: _, [], _, h => h.elim
theorem EnvG.defAt {V : SV → Value → Prop} {m : Str → Option Value} {sv : SV} {v : Value} (hv : V sv v) : ∀ {ns : List Str} {ρ : List SV} {i : Nat}, EnvG V m ns (Mine.upd ρ i .undef) → i < ns.length → m (nameAt ns i) = some v → EnvG V m ns (Mine.upd ρ i sv)
  | [], _, _, _, hi, _ => absurd hi (Nat.not_lt_zero _)
  | _ :: _, _ :: _, 0, h, _, hm => ⟨.inr ⟨v, hm, hv⟩, h.2⟩
  | _ :: _, _ :: ρ, n + 1, h, hi, hm => ⟨h.1, EnvG.defAt hv (i := n) h.2 (Nat.lt_of_succ_lt_succ hi) hm⟩
  | _ :: _, [], _, h, _, _ => h.elim
theorem look_D {d : SV} : ∀ {ρ : List SV} {i : Nat}, look ρ i = .dct d → hasD ρ = true
  | [], _, h => nomatch h
  | x :: r, 0, h => by
    rw [show x = .dct d from h]; rfl
  | x :: r, n + 1, h => by
    show (isD x || hasD r) = true
    rw [look_D (ρ := r) (i := n) h, Bool.or_true]
theorem vc_of {w : World} {g : LedT} {cell : Option (Addr × Obj)} {sv : SV} {v : Value} (h : VR w g sv v) : VC w g cell sv v := by
  cases sv <;> first | exact h | exact h.elim
theorem onD_iff {K : SV → Prop} {s : SV} : onD K s ↔ ∃ b, s = .dct b ∧ K b := by
  constructor
  · intro h; cases s <;> first | exact ⟨_, rfl, h⟩ | exact h.elim
  · rintro ⟨b, rfl, h⟩; exact h
theorem swap_ok {v t : Expr} {l : Nat} {env : Env} (h : okVal v = true) : swapsWith v (some t) l env = pure false := by
  cases v <;> first | exact rfl | exact bad h rfl
theorem swap_okS {v t : Expr} {l : Nat} {env : Env} (h : notComp v = true) : swapsWithSole [t] v l env = pure false := by
  cases v <;> first | exact rfl | exact bad h rfl
theorem swap_no {es : List Expr} {k : Nat} {p : Pos} {v : Expr} {env : Env} (h : notComp v = true) : swappedStores [.Tuple es k p] v env = pure none := by
  cases v <;> first | exact rfl | exact bad h rfl
theorem fold_ok {v : Expr} {env : Env} (h : notSet v = true) : ∀ x, foldedSetIterable v env x = pure x := by
  intro x; cases v <;> first | exact bad h rfl | kernel_rfl!
variable {c : Cx} {ns : List Str} {n : Nat} {Γ : Nat → FnT} {ρ : List SV} {base : LedT} {al : List Nat} {nx ct : Kn} {rt : SV → Prop}
theorem is_var {ck : Ck} {i : Nat} {e : Expr} (h : isVar ck i e = true) : i < ck.ns.length ∧ ∃ p, e = .Name (nameAt ck.ns i) p := by
  obtain ⟨x, p, rfl, h⟩ := in_name h
  exact ⟨of_decide_eq_true (and3 h).1, p, by rw [eq_of_beq (and3 h).2]⟩
theorem is_sub {ck : Ck} {i : Nat} {k : Expr → Bool} {e : Expr} (h : subV ck i k (view e) = true) : ∃ p q x, e = .Subscript (.Name (nameAt ck.ns i) p) x q ∧ i < ck.ns.length ∧ k x = true := by
  obtain ⟨o, x, q, rfl, h⟩ := in_sub h
  obtain ⟨hi, p, rfl⟩ := is_var (and3 h).1
  exact ⟨p, q, x, rfl, hi, (and3 h).2⟩
/-- a store into the frame -/
theorem st_loc {m : Str → Option Value} {s : Shared} {g : LedT} {x : Str} {v : Value} {Q : Unit → Shared → Prop} (hx : locOk c.cs x = true) (F : Fr c.h₀ c.L s.heap m) (N : News c.h₀ c.L s.heap g)
    (h : ∀ h', Fr c.h₀ c.L h' (fun y => if y = x then some v else m y) → News c.h₀ c.L h' g → Q () { s with heap := h', toks := s.toks + 1 }) : wpAny (model PRG c.w) c.A (storeName c.env x v) Q NoE s :=
  stN F N h (loc_parts (c := c) hx).1 (loc_parts (c := c) hx).2.1
theorem agree_set {i : Nat} {m : Str → Option Value} {v : Option Value} (hi : al.contains i = true) : Agree ns al m (fun y => if y = nameAt ns i then v else m y) := fun y hy => if_neg fun e => hy (by rw [e]; exact List.mem_map.mpr ⟨i, by simpa using hi, rfl⟩)
theorem agree_refl {m : Str → Option Value} : Agree ns al m m := fun _ _ => rfl
/-- an entry of the cell's dict set -/
theorem store_core {g : LedT} {cell : Option (Addr × Obj)} {m : Str → Option Value} {s : Shared} {i j : Nat} {d sv : SV} {v : Value} {t : Tok} {Q : Unit → Shared → Prop} (S : StR c ns base ρ g cell m s.heap) (hi : i < ns.length) (hd : look ρ i = .dct d) (ho : okD ρ i d = true) (hj : j < 13) (hf : flat sv = true) (hv : VR c.w g sv v)
    {r : Value} (hr : m (nameAt ns i) = some r) (kk : ∀ h' o', StR c ns base (upd ρ i (.dct (dset d j sv))) g (some o') m h' → Q () { s with heap := h', toks := s.toks + 1 }) : wpAny (model PRG c.w) c.A (setItem r (.str (strTab j) t) v) Q NoE s := by
  obtain ⟨v', hv', hc⟩ := EnvG.look (i := i) S.R (by rw [hd]; intro e; cases e)
  rw [hd] at hc
  obtain ⟨D, o, ws, rfl, rfl, hd', hk, hfl⟩ := hc
  rw [hr] at hv'
  cases hv'
  obtain ⟨c1, c2, c3⟩ := S.C D o rfl
  obtain ⟨h1, h2⟩ := and3 ho
  have hlen := vrk_len hk
  have hle := of_decide_eq_true h2
  have hnd : (ws.map (·.1)).Nodup := by obtain ⟨_, _, _, _, _, _, q⟩ := hd'; exact q
  refine kda_set (knd := KND c.w) (news := (D, o) :: g) S.F S.N (.head c1) hd' (strKind_is _ _ _ _) (by rw [PySem.sizeLine_eq, hlen]; exact Nat.le_trans hle (by decide)) fun h' o' F' N' hd2 => ?_
  refine kk h' (D, o') ⟨F', N', fun D' o'' e => by cases e; exact ⟨c1, c2, dict_cls hd2⟩, S.B, ?_⟩
  refine EnvG.defAt (v := .ref D) ⟨D, o', _, rfl, rfl, hd2, vrk_set hj hv hk hnd, ?_⟩ (noD_of (bnot h1) (fun sv v hn hv => (vc_plain hn).mpr ((vc_plain hn).mp hv)) (fun _ _ => rfl) S.R.undefAt) hi hr
  rcases flat_set hf hfl (Nat.le_trans hle (by decide)) with q | q
  · exact q
  · rw [q] at hk; exact hk.elim
abbrev CK (c : Cx) (ns : List Str) (n : Nat) : Ck := ⟨ns, c.cs, n⟩
theorem ex_set {i : Nat} {ie : IE} {v : Expr} {W : Kn} {p : Pos} {ss : List Stmt} (C : Ctx c ns n Γ) (hn : ns.Nodup) (ha : al.contains i = true) (hi : i < ns.length) {q : Pos} (ho : okVal v = true) (hc : chkE (CK c ns n) ie v = true)
    (hw : wpE Γ (froz ρ) ie fun sv => (flat sv || !hasD ρ) = true ∧ W (upd ρ i sv)) (hr : ∀ ρ', W ρ' → ∀ base, ExS c ns base al ρ' ss nx rt ct) : ExS c ns base al ρ (.Assign [.Name (nameAt ns i) q] v p :: ss) nx rt ct := fun Q s g cell m S P =>
  wpAny_execs_cons (wpAny_Assign_Name ((se_all C ie).ev _ _ hc hw m _ s _ S.F S.N S.env fun va h tk G sv F N hs hK hv => by
    obtain ⟨g', cell', S', _, _, _, _, hval⟩ := S.grow F N hs
    refine st_loc (s := { s with heap := h, toks := tk }) (C.loc _ (nameAt_mem hi)) S'.F S'.N fun h2 F2 N2 => ?_
    exact hr _ hK.2 base Q _ g' cell' _ (S'.set hn hi (vc_of (hval sv va hK.1 hv)) F2 N2) (P.step ⟨_, _, rfl⟩ (agree_set ha))) (swap_ok ho))
theorem ex_set2 {i j : Nat} {ie : IE} {v : Expr} {k : Nat} {p p1 p2 p3 : Pos} {ss : List Stmt} {W : Kn} (C : Ctx c ns n Γ) (hn : ns.Nodup) (hai : al.contains i = true) (haj : al.contains j = true) (hi : i < ns.length) (hj : j < ns.length) (ho : notComp v = true) (hc : chkE (CK c ns n) ie v = true)
    (hw : wpE Γ (froz ρ) ie (onT fun a b => ((flat a && flat b) || !hasD ρ) = true ∧ W (upd (upd ρ i a) j b))) (hr : ∀ ρ', W ρ' → ∀ base, ExS c ns base al ρ' ss nx rt ct) : ExS c ns base al ρ (.Assign [.Tuple [.Name (nameAt ns i) p1, .Name (nameAt ns j) p2] k p3] v p :: ss) nx rt ct := fun Q s g cell m S P =>
  wpAny_execs_cons (Assign_Tuple ((se_all C ie).ev _ _ hc hw m _ s _ S.F S.N S.env fun va h tk G sv F N hs hK hv => by
    obtain ⟨a, b, rfl, hf, hK⟩ := onT_iff.mp hK
    obtain ⟨r, v0, v1, rfl, hm, h0, h1⟩ := hv
    refine unpackN_ (s := { s with heap := h, toks := tk }) F N (News.isTup N hm) rfl rfl rfl fun h2 F2 N2 => ?_
    obtain ⟨g', cell', S', _, _, _, _, hval⟩ := S.grow F2 N2 hs
    have hfa : (flat a || !hasD ρ) = true := by revert hf; cases flat a <;> cases flat b <;> cases hasD ρ <;> intro hf <;> first | rfl | cases hf
    have hfb : (flat b || !hasD ρ) = true := by revert hf; cases flat a <;> cases flat b <;> cases hasD ρ <;> intro hf <;> first | rfl | cases hf
    show wpAny (model PRG c.w) c.A (do holding [v1] (assign (.Name (nameAt ns i) p1) c.env v0); (do holding [] (assign (.Name (nameAt ns j) p2) c.env v1); pure ())) _ NoE _
    refine wpAny_bind (wpAny_holding (PyProof.Rows.assign_Name (st_loc (s := { s with heap := h2, toks := tk }) (C.loc _ (nameAt_mem hi)) S'.F S'.N fun h3 F3 N3 => ?_)))
    have S3 := S'.set hn hi (vc_of (hval a v0 hfa h0)) F3 N3
    refine wpAny_bind (wpAny_holding (PyProof.Rows.assign_Name (st_loc (s := { s with heap := h3, toks := tk + 1 }) (C.loc _ (nameAt_mem hj)) S3.F S3.N fun h4 F4 N4 => ?_)))
    refine wpAny_pure ?_
    exact hr _ hK base Q _ g' cell' _ (S3.set hn hj (vc_of (hval b v1 hfb h1)) F4 N4) (P.step ⟨_, _, rfl⟩ fun y hy => (agree_set (m := fun y => if y = nameAt ns i then some v0 else m y) haj y hy).trans (agree_set hai y hy))) (swap_okS ho) (swap_no ho))
theorem StR.drop {g : LedT} {cell : Option (Addr × Obj)} {m : Str → Option Value} {h : Heap} (S : StR c ns base ρ g cell m h) (hd : hasD ρ = false) : StR c ns base ρ g none m h :=
  ⟨S.F, fun q hq => S.N q (List.mem_append_right _ hq), fun _ _ e => (nomatch e), S.B, noD_of hd (fun sv v hn hv => (vc_plain hn).mpr ((vc_plain hn).mp hv)) (fun _ _ => rfl) S.R⟩
theorem ex_setD {i : Nat} {ie : IE} {ks : List (Option Expr)} {vs : List Expr} {p p1 q : Pos} {ss : List Stmt} {W : Kn} (C : Ctx c ns n Γ) (hn : ns.Nodup) (ha : al.contains i = true) (hi : i < ns.length) (h0 : ks ≠ []) (h15 : ks.length ≤ 15) (hc : chkP (CK c ns n) ie ks vs = true) (hd : hasD ρ = false)
    (hw : wpE Γ (froz ρ) ie fun ch => (flat ch && keysOk (dkeys ch)) = true ∧ W (upd ρ i (.dct ch))) (hr : ∀ ρ', W ρ' → ∀ base, ExS c ns base al ρ' ss nx rt ct) : ExS c ns base al ρ (.Assign [.Name (nameAt ns i) q] (.Dict ks vs p1) p :: ss) nx rt ct := fun Q s g cell m S P => by
  have S0 := S.drop hd
  obtain ⟨a1, a2, a3⟩ := pairs_ok hc
  refine wpAny_execs_cons (wpAny_Assign_Name (dict_core C a1 a2 a3 h0 h15 ((se_all C ie).pr _ _ _ hc hw) m _ s _ S0.F S0.N S0.env fun d h4 tk o4 ws g4 ch F4 N4 hs hne hmod hd4 hk hf hK => ?_) rfl)
  have S4 : StR c ns base ρ g4 (some (d, o4)) m h4 := ⟨F4, N4, fun D o e => by cases e; exact ⟨hne, hmod, dict_cls hd4⟩, S.B.trans (fun q hq => hs q hq), noD_of hd (fun sv v hn hv => (vc_plain hn).mpr (((vc_plain hn).mp hv).mono (fun q hq => hs q hq))) (fun _ _ => rfl) S0.R⟩
  refine st_loc (s := { s with heap := h4, toks := tk }) (C.loc _ (nameAt_mem hi)) S4.F S4.N fun h2 F2 N2 => ?_
  exact hr _ hK base Q _ g4 _ _ (S4.set hn hi (show VC c.w g4 (some (d, o4)) (.dct ch) (.ref d) from ⟨d, o4, ws, rfl, rfl, hd4, hk, hf⟩) F2 N2) (P.step ⟨_, _, rfl⟩ (agree_set ha))
theorem ex_setK {i : Nat} {ik ie : IE} {v x : Expr} {p p1 p2 : Pos} {ss : List Stmt} {W : Kn} (C : Ctx c ns n Γ) (hi : i < ns.length) (ho : okVal v = true) (hc : chkE (CK c ns n) ie v = true) (hk : chkE (CK c ns n) ik x = true)
    (hw : onD (fun d => wpE Γ (froz ρ) ie fun sv => flat sv = true ∧ wpE Γ (froz ρ) ik (onS fun j => okD ρ i d = true ∧ W (upd ρ i (.dct (dset d j sv))))) (look ρ i)) (hrW : ∀ ρ', W ρ' → ∀ base, ExS c ns base al ρ' ss nx rt ct) : ExS c ns base al ρ (.Assign [.Subscript (.Name (nameAt ns i) p1) x p2] v p :: ss) nx rt ct := fun Q s g cell m S P => by
  obtain ⟨d, hd, hw⟩ := onD_iff.mp hw
  obtain ⟨r, hr, _⟩ := EnvG.look (i := i) S.R (by rw [hd]; intro e; cases e)
  refine wpAny_execs_cons (wpAny_Assign_Subscript ((se_all C ie).ev _ _ hc hw m _ s _ S.F S.N S.env fun va h tk G sv F N hs hK hv => ?_) (swap_ok ho))
  obtain ⟨hf, hK⟩ := hK
  refine ld_loc (s := { s with heap := h, toks := tk }) (C.loc _ (nameAt_mem hi)) F hr ?_
  refine (se_all C ik).ev _ _ hk hK m _ { s with heap := h, toks := tk } G F N (S.env.mono hs) fun vk h2 tk2 G2 sk F2 N2 hs2 hK2 hvk => ?_
  obtain ⟨j, rfl, hok, hK3⟩ := onS_iff.mp hK2
  obtain ⟨hj, t, rfl⟩ := hvk
  obtain ⟨g', cell', S', _, _, _, _, hval⟩ := S.grow F2 N2 (hs.trans hs2)
  refine store_core (s := { s with heap := h2, toks := tk2 }) S' hi hd hok hj hf (hval sv va (by rw [hf]; rfl) (hv.mono hs2)) hr fun h3 o3 S3 => ?_
  exact hrW _ hK3 base Q _ g' _ _ S3 (P.step ⟨_, _, rfl⟩ agree_refl)
theorem ifk_block {ck : Ck} {i kv : Nat} {b : List Stmt} (h : kIfkB ck i kv b = true) : ∃ p p1 p2 p3 k p4, b = [.Assign [.Subscript (.Name (nameAt ck.ns i) p1) (.Name (nameAt ck.ns kv) p3) p2] (.Constant (.bool true) k p4) p] ∧ i < ck.ns.length ∧ kv < ck.ns.length := by
  obtain ⟨s, rfl, h⟩ := in_l1 h
  obtain ⟨t, e, p, rfl, h⟩ := in_asg h
  obtain ⟨p1, p2, x, rfl, hi, hx⟩ := is_sub (and3 h).1
  obtain ⟨hk, p3, rfl⟩ := is_var hx
  obtain ⟨q, k, p4, rfl, hq⟩ := in_const (and3 h).2
  rw [in_cB hq]
  exact ⟨p, p1, p2, p3, k, p4, rfl, hi, hk⟩
theorem ex_ifk {ic : IE} {i kv : Nat} {t : Expr} {b : List Stmt} {W : Kn} {p : Pos} {ss : List Stmt} (C : Ctx c ns n Γ) (hb : kIfkB (CK c ns n) i kv b = true) (ht : trOk ic = true) (hc : chkE (CK c ns n) ic t = true)
    (hw : wpE Γ (froz ρ) ic (onB fun b => onS (fun j => onD (fun d => onB (fun old => okD ρ i d = true ∧ W (upd ρ i (.dct (dset d j (.bool (b || old)))))) (dget d j)) (look ρ i)) (look ρ kv))) (hrW : ∀ ρ', W ρ' → ∀ base, ExS c ns base al ρ' ss nx rt ct) : ExS c ns base al ρ (.If t b [] p :: ss) nx rt ct := fun Q s g cell m S P => by
  obtain ⟨p0, p1, p2, p3, k, p4, rfl, hi, hkv⟩ := ifk_block hb
  refine wpAny_execs_cons (wpAny_If ((se_all C ic).tr _ _ ht hc onB_bool hw m _ s _ S.F S.N S.env fun b h tk G F N hs hK => ?_))
  obtain ⟨j, hj, hK⟩ := onS_iff.mp (show onS _ (look ρ kv) from hK)
  obtain ⟨d, hd, hK⟩ := onD_iff.mp hK
  obtain ⟨old, ho, hok, hK⟩ := onB_iff.mp hK
  obtain ⟨g', cell', S', _, _, hcell, _, hval⟩ := S.grow F N hs
  cases b with
  | false =>
    refine wpAny_execs_nil ?_
    rw [Bool.false_or, dset_same (by intro e; cases e) ho] at hK
    refine hrW _ hK base Q _ g' cell' m ?_ (P.step ⟨_, _, rfl⟩ agree_refl)
    obtain ⟨r, hr, hv⟩ := EnvG.look (i := i) S'.R (by rw [hd]; intro e; cases e)
    rw [hd] at hv
    exact ⟨S'.F, S'.N, S'.C, S'.B, EnvG.defAt (V := VC c.w g' cell') hv S'.R.undefAt hi hr⟩
  | true =>
    obtain ⟨r, hr, _⟩ := EnvG.look (i := i) S'.R (by rw [hd]; intro e; cases e)
    obtain ⟨vk, hvk, hk⟩ := EnvG.look (i := kv) S'.R (by rw [hj]; intro e; cases e)
    rw [hj] at hk
    obtain ⟨hj13, t, rfl⟩ := hk
    refine wpAny_execs_cons (wpAny_Assign_Subscript (Constant_bool ?_) rfl)
    refine ld_loc (s := { s with heap := h, toks := tk }) (C.loc _ (nameAt_mem hi)) S'.F hr ?_
    refine ld_loc (s := { s with heap := h, toks := tk }) (C.loc _ (nameAt_mem hkv)) S'.F hvk ?_
    refine store_core (s := { s with heap := h, toks := tk }) S' hi hd hok hj13 (sv := .bool (true || old)) rfl rfl hr fun h3 o3 S3 => ?_
    refine wpAny_execs_nil ?_
    exact hrW _ hK base Q _ g' _ _ S3 (P.step ⟨_, _, rfl⟩ agree_refl)
theorem ex_ret {ie : IE} {e : Expr} {p : Pos} {ss : List Stmt} (C : Ctx c ns n Γ) (hc : chkE (CK c ns n) ie e = true) (hw : wpE Γ (froz ρ) ie rt) : ExS c ns base al ρ (.Return (some e) p :: ss) nx rt ct := fun Q s g cell m S P =>
  wpAny_execs_cons (wpAny_Return_some ((se_all C ie).ev _ _ hc hw m _ s _ S.F S.N S.env fun va h tk G sv F N hs hK hv => P.rt va _ G sv m ⟨_, _, rfl⟩ F N ((S.B.trans Sub.refl.appR).trans hs) hK hv))
theorem ex_cont {p : Pos} {ss : List Stmt} (hw : ct ρ) : ExS c ns base al ρ (.Continue p :: ss) nx rt ct := fun Q s g cell m S P =>
  wpAny_execs_cons (wpAny_Continue (P.ct ρ g cell m s ⟨_, _, rfl⟩ agree_refl S hw))
theorem ex_if {ic : IE} {t : Expr} {b : List Stmt} {p : Pos} {ss : List Stmt} {W : Kn} {W1 : Prop} (C : Ctx c ns n Γ) (ht : trOk ic = true) (hc : chkE (CK c ns n) ic t = true)
    (hw : wpE Γ (froz ρ) ic (onB fun q => (q = true → W1) ∧ (q = false → W ρ))) (hb : W1 → ∀ base, ExS c ns base al ρ b W rt ct) (hr : ∀ ρ', W ρ' → ∀ base, ExS c ns base al ρ' ss nx rt ct) : ExS c ns base al ρ (.If t b [] p :: ss) nx rt ct := fun Q s g cell m S P => by
  refine wpAny_execs_cons (wpAny_If ((se_all C ic).tr _ _ ht hc onB_bool hw m _ s _ S.F S.N S.env fun q h tk G F N hs hK => ?_))
  obtain ⟨g', cell', S', _, _, hcell, _, hval⟩ := S.grow F N hs
  cases q with
  | false =>
    refine wpAny_execs_nil ?_
    exact hr ρ (hK.2 rfl) base Q _ g' cell' m S' (P.step ⟨_, _, rfl⟩ agree_refl)
  | true =>
    refine hb (hK.1 rfl) base _ { s with heap := h, toks := tk } g' cell' m S' ?_
    have P' := P.step (s' := { s with heap := h, toks := tk }) ⟨_, _, rfl⟩ agree_refl
    exact ⟨fun ρ' g2 cell2 m2 s2 h1 h2 h3 h4 => hr ρ' h4 base Q s2 g2 cell2 m2 h3 (P'.step h1 h2), fun ρ' g2 cell2 m2 s2 h1 h2 h3 h4 => P'.ct ρ' g2 cell2 m2 s2 h1 h2 h3 h4, fun v s2 G sv m2 h1 h2 h3 h4 h5 h6 => P'.rt v s2 G sv m2 h1 h2 h3 h4 h5 h6⟩
theorem ex_freeze {ss : List Stmt} (hw : ∀ base, ExS c ns base al (froz ρ) ss nx rt ct) : ExS c ns base al ρ ss nx rt ct := fun Q s g cell m S P =>
  hw base Q s (cellL cell ++ g) none m ⟨S.F, S.N, fun _ _ e => (nomatch e), S.B.trans Sub.refl.appR, EnvG.imp (fun _ _ => vc_of) (fun _ _ => rfl) S.env⟩ P
theorem ex_done (hw : nx ρ) : ExS c ns base al ρ [] nx rt ct := fun Q s g cell m S P => wpAny_execs_nil (P.nx ρ g cell m s ⟨_, _, rfl⟩ agree_refl S hw)
end

section
open PySem.Calls PyProof.V
variable {c : Cx} {ns : List Str} {n : Nat} {Γ : Nat → FnT} {ρ : List SV} {base : LedT} {al : List Nat} {nx ct : Kn} {rt : SV → Prop}
theorem ints_mem : ∀ {vs : List Value} {l : List Int} {v : Value}, IntsAre vs l → v ∈ vs → ∃ k t, k ∈ l ∧ v = .int k t
  | _, _, _, .nil, h => nomatch h
  | _, _, v, .cons k t r, h => by
    rcases List.mem_cons.mp h with rfl | h
    · exact ⟨k, t, .head _, rfl⟩
    · obtain ⟨k', t', h1, h2⟩ := ints_mem r h; exact ⟨k', t', .tail _ h1, h2⟩
theorem strs_mem {P : SV → Prop} : ∀ {l : List Nat} {vs : List Value} {v : Value}, StrVs l vs → allN P l → v ∈ vs → ∃ k t, P (.str k) ∧ k < 13 ∧ v = .str (strTab k) t
  | [], _, _, h, _, hm => by cases h; cases hm
  | k :: l, _, v, ⟨t, rest, e, hk, hr⟩, ⟨hp, ha⟩, hm => by
    subst e
    rcases List.mem_cons.mp hm with rfl | hm
    · exact ⟨k, t, hp, hk, rfl⟩
    · exact strs_mem hr ha hm
theorem keys_mem {w : World} {g : LedT} {P : SV → Prop} : ∀ {e : SV} {ws : List (Str × Value)} {k : Str}, VRK w g e ws → allK P e → k ∈ ws.map (·.1) → ∃ j, P (.str j) ∧ j < 13 ∧ k = strTab j := by
  intro e
  induction e with
  | dnil => intro ws k h _ hm; cases h; cases hm
  | dcons j x r _ ih =>
    rintro ws k ⟨v, rest, rfl, hj, h1, h2⟩ ⟨hp, ha⟩ hm
    rcases List.mem_cons.mp hm with rfl | hm
    · exact ⟨j, hp, hj, rfl⟩
    · exact ih h2 ha hm
  | _ => intro ws k h; exact h.elim
theorem atoms_free {w : World} {g g' : LedT} : ∀ {e : SV} {ws : List (Str × Value)}, atoms e = true → VRK w g e ws → VRK w g' e ws := by
  intro e
  induction e with
  | dnil => intro ws _ h; exact h
  | dcons j x r _ ih =>
    rintro ws ha ⟨v, rest, rfl, hj, h1, h2⟩
    have ha' := and3 (show (atom x && atoms r) = true from ha)
    refine ⟨v, rest, rfl, hj, ?_, ih ha'.2 h2⟩
    cases x <;> first | exact h1 | cases ha'.1
  | _ => intro ws ha; cases ha
noncomputable def stN_ (ns : List Str) (st : List Nat) : List Str := st.map (nameAt ns)
theorem st_free (hn : ns.Nodup) {st : List Nat} (hb : ∀ j ∈ st, j < ns.length) {j : Nat} (hj : j < ns.length) (hs : st.contains j = false) : (stN_ ns st).contains (nameAt ns j) = false := by
  cases hc : (stN_ ns st).contains (nameAt ns j) with
  | false => rfl
  | true =>
    obtain ⟨k, hk, e⟩ := List.mem_map.mp (List.contains_iff_mem.mp hc)
    have := nameAt_inj hn (hb k hk) hj e
    rw [this] at hk
    rw [List.contains_iff_mem.mpr hk] at hs; cases hs
theorem st_mem {st : List Nat} {y : Str} (h : (stN_ ns st).contains y = false) : y ∉ st.map (nameAt ns) := fun hm => by
  have h : (st.map (nameAt ns)).contains y = false := h
  rw [List.contains_iff_mem.mpr hm] at h; cases h
theorem loc_kind (C : Ctx c ns n Γ) {x : Str} (hx : locOk c.cs x = true) : c.env.kindOf x = some .local := (loc_parts (c := c) hx).2.1
/-- the environment in a turn -/
theorem env_turn (hn : ns.Nodup) {st : List Nat} (hb : ∀ j ∈ st, j < ns.length) {V : SV → Value → Prop} {m u : Str → Option Value} {i : Nat} {ρ : List SV} (R : EnvG V m ns ρ) : EnvG V (fun y => if (stN_ ns st).contains y then u y else m y) ns (forget st 0 ρ) :=
  EnvG.forget (fun j hj hs => by
    rw [Nat.zero_add] at hs
    show (if _ then _ else _) = _
    rw [st_free hn hb hj hs]; rfl) R
theorem env_done (hn : ns.Nodup) {st : List Nat} (hb : ∀ j ∈ st, j < ns.length) {V : SV → Value → Prop} {m u : Str → Option Value} {i : Nat} (hi : i < ns.length) {ρ : List SV} (R : EnvG V m ns ρ) : EnvG V (fun y => if y = nameAt ns i then u y else if (stN_ ns st).contains y then u y else m y) ns (forget (i :: st) 0 ρ) :=
  EnvG.forget (fun j hj hs => by
    rw [Nat.zero_add] at hs
    have hs' : j ≠ i ∧ st.contains j = false := by
      rw [List.contains_cons] at hs
      have := Bool.or_eq_false_iff.mp hs
      exact ⟨fun e => (by rw [e, beq_self_eq_true] at this; cases this.1), this.2⟩
    show (if _ then _ else _) = _
    rw [if_neg fun e => hs'.1 (nameAt_inj hn hj hi e), st_free hn hb hj hs'.2]; rfl) R
theorem ex_forr {i : Nat} {st : List Nat} {ie : IE} {it : Expr} {b ss : List Stmt} {p q : Pos} {W Wb : Kn} (C : Ctx c ns n Γ) (hn : ns.Nodup) (hi : i < ns.length) (ha : al.contains i = true) (hst : ∀ j ∈ st, al.contains j = true ∧ j < ns.length) (ho : notSet it = true) (hc : chkE (CK c ns n) ie it = true) (hd : hasD ρ = false)
    (hw : wpE Γ (froz ρ) ie fun sv => allI (fun a => Wb (upd (forget st 0 ρ) i a)) sv ∧ W (forget (i :: st) 0 ρ)) (hbd : ∀ ρ', Wb ρ' → ∀ base, ExS c ns base st ρ' b (fun _ => True) rt (fun _ => True)) (hr : ∀ ρ', W ρ' → ∀ base, ExS c ns base al ρ' ss nx rt ct) : ExS c ns base al ρ (.For (.Name (nameAt ns i) q) it b [] p :: ss) nx rt ct := fun Q s g cell m S P => by
  have S0 := S.drop hd
  have hb : ∀ j ∈ st, j < ns.length := fun j hj => (hst j hj).2
  refine wpAny_execs_cons (For_invVF S0.F (loc_kind C (C.loc _ (nameAt_mem hi))) (by show (c.cs.kind == .class || (c.cs.kind == .module && c.L != mainGlobals)) = false; rw [C.ok.kind]; rfl) ((se_all C ie).ev _ _ hc hw m _ s _ S0.F S0.N S0.env fun v h tk G sv F N hs hK hv => ?_) (fold_ok ho) PassesOwn.never)
  obtain ⟨hall, hrest⟩ := hK
  have R0 : EnvG (VR c.w G) m ns ρ := noD_of hd (fun sv v hn hv => ((vc_plain hn).mp hv).mono (fun q hq => hs q hq)) (fun _ _ => rfl) S0.R
  have B0 : Sub base G := S0.B.trans (fun q hq => hs q hq)
  -- a turn
  have turn : ∀ (a : SV) (v : Value) (u : Str → Option Value) (h' : Heap) (tk' : Nat) (own : LedT), Wb (upd (forget st 0 ρ) i a) → VR c.w G a v →
      Fr c.h₀ c.env.locals h' (fun y => if y = nameAt ns i then some v else if (stN_ ns st).contains y then u y else m y) → News c.h₀ c.env.locals h' (G ++ own) →
      wpAny (model PRG c.w) c.A (execs b c.env) (TurnPost c.h₀ c.env.locals (nameAt ns i) (stN_ ns st) m (G ++ own) { s with heap := h', toks := tk' } (fun f s' => match f with | .next => wpAny (model PRG c.w) c.A (execs ss c.env) Q NoE s' | f => Q f s')) NoE { s with heap := h', toks := tk' } := by
    intro a v u h' tk' own hb' hv F' N'
    have R' : EnvG (VR c.w (G ++ own)) (fun y => if y = nameAt ns i then some v else if (stN_ ns st).contains y then u y else m y) ns (upd (forget st 0 ρ) i a) :=
      EnvG.upd (hv.mono Sub.refl.appL) hn hi (env_turn (i := i) hn hb (EnvG.imp (fun _ _ => VR.mono Sub.refl.appL) (fun _ _ => rfl) R0))
    have fin : ∀ ρ' g' cell' m' s', Alike { s with heap := h', toks := tk' } s' → Agree ns st (fun y => if y = nameAt ns i then some v else if (stN_ ns st).contains y then u y else m y) m' → StR c ns (G ++ own) ρ' g' cell' m' s'.heap →
        TurnEnd c.h₀ c.env.locals (nameAt ns i) (stN_ ns st) m (G ++ own) { s with heap := h', toks := tk' } s' := by
      rintro ρ' g' cell' m' s' ⟨h2, tk2, rfl⟩ hm S2
      exact TurnEnd.intro S2.F S2.N (fun p hp => List.mem_append_right _ (S2.B p hp)) fun y hy hs => by
        rw [hm y (st_mem hs)]
        show (if _ then _ else _) = _
        rw [if_neg hy, hs]; rfl
    refine hbd _ hb' (G ++ own) _ _ (G ++ own) none _ ⟨F', N', fun _ _ e => (nomatch e), .refl, EnvG.imp (fun _ _ => vc_of) (fun _ _ => rfl) R'⟩ ⟨?_, ?_, ?_⟩
    · intro ρ' g' cell' m' s' h1 h2 h3 _; exact fin ρ' g' cell' m' s' h1 h2 h3
    · intro ρ' g' cell' m' s' h1 h2 h3 _; exact fin ρ' g' cell' m' s' h1 h2 h3
    · intro v' s' G' sv' m' h1 F2 N2 hs2 hr hv2
      exact P.rt v' s' G' sv' m' (Alike.trans ⟨_, _, rfl⟩ h1) F2 N2 ((B0.trans Sub.refl.appL).trans hs2) hr hv2
  have done : ∀ (u : Str → Option Value) (h' : Heap) (tk' : Nat), Fr c.h₀ c.env.locals h' (fun y => if y = nameAt ns i then u y else if (stN_ ns st).contains y then u y else m y) → News c.h₀ c.env.locals h' G → wpAny (model PRG c.w) c.A (execs ss c.env) Q NoE { s with heap := h', toks := tk' } := by
    intro u h' tk' F' N'
    refine hr _ hrest base Q _ G none _ ⟨F', N', fun _ _ e => (nomatch e), B0, EnvG.imp (fun _ _ => vc_of) (fun _ _ => rfl) (env_done hn hb hi R0)⟩ (P.step ⟨_, _, rfl⟩ fun y hy => ?_)
    show (if _ then _ else _) = _
    rw [if_neg fun e => hy (List.mem_map.mpr ⟨i, List.contains_iff_mem.mp ha, e.symm⟩)]
    cases hq : (stN_ ns st).contains y with
    | false => rfl
    | true =>
      obtain ⟨j, hj, e⟩ := List.mem_map.mp (List.contains_iff_mem.mp hq)
      exact absurd (List.mem_map.mpr ⟨j, List.contains_iff_mem.mp (hst j hj).1, e⟩) hy
  cases sv <;> first | exact hall.elim | skip
  · obtain ⟨r, vs, k, rfl, hm, hiv⟩ := hv
    refine iter_listP (s := { s with heap := h, toks := tk }) (stN_ ns st) rfl hm F N (fun v u h' tk' own hv' F' N' => ?_) (fun u h' tk' F' N' => done u h' tk' F' N')
    obtain ⟨z, t, hz, rfl⟩ := ints_mem hiv hv'
    exact turn _ _ u h' tk' own (hall z hz) ⟨t, rfl⟩ F' N'
  · obtain ⟨r, vs, k, rfl, hm, hiv⟩ := hv
    refine iter_listP (s := { s with heap := h, toks := tk }) (stN_ ns st) rfl hm F N (fun v u h' tk' own hv' F' N' => ?_) (fun u h' tk' F' N' => done u h' tk' F' N')
    obtain ⟨z, t, hz, hlt, rfl⟩ := strs_mem hiv hall hv'
    exact turn _ _ u h' tk' own hz ⟨hlt, t, rfl⟩ F' N'
  · obtain ⟨r, o, ws, rfl, hm, hmod, hdo, hk⟩ := hv
    refine iter_dictP (s := { s with heap := h, toks := tk }) (stN_ ns st) rfl hm hdo hmod F N (fun key t u h' tk' own hv' F' N' => ?_) (fun u h' tk' F' N' => done u h' tk' F' N')
    obtain ⟨z, hz, hlt, rfl⟩ := keys_mem (P := fun a => Wb (upd (forget st 0 ρ) i a)) hk hall hv'
    exact turn _ _ u h' tk' own hz ⟨hlt, t, rfl⟩ F' N'
theorem forget_upd {st : List Nat} : ∀ {ρ : List SV} {k j : Nat}, forget st k (upd ρ j .undef) = upd (forget st k ρ) j .undef
  | [], _, _ => rfl
  | x :: r, k, 0 => by
    show (bif st.contains k then SV.undef else SV.undef) :: forget st (k + 1) r = SV.undef :: forget st (k + 1) r
    cases st.contains k <;> rfl
  | x :: r, k, j + 1 => congrArg (_ :: ·) (forget_upd (ρ := r) (k := k + 1) (j := j))
theorem hasD_upd {V V' : SV → Value → Prop} (hv : ∀ sv v, isD sv = false → V sv v → V' sv v) {m : Str → Option Value} {ρ : List SV} {i : Nat} {d : SV} (h : okD ρ i d = true) (R : EnvG V m ns ρ) : EnvG V' m ns (upd ρ i .undef) :=
  noD_of (bnot (and3 h).1) hv (fun _ _ => rfl) R.undefAt
/-- the loop over a list or a pair that turns the cell's dict -/
theorem loop_dict {I l : Addr} {P' : Nat → Value → Prop} {St : Nat → Heap → Prop} {items : List SV} {i Dv : Nat} {st : List Nat} {D : Addr} {o₀ : Obj} {d₀ : SV} {g : LedT} {b : List Stmt} {m : Str → Option Value} {s : Shared} {Q : Flow → Shared → Prop} {body : SV → SV → Kn → Prop} {fin : SV → Prop}
    (C : Ctx c ns n Γ) (hn : ns.Nodup) (hi : i < ns.length) (hD : Dv < ns.length) (hiD : i ≠ Dv) (hDst : st.contains Dv = false) (hb : ∀ j ∈ st, j < ns.length) (W : Walks PRG c.w c.A I [I, l] [I] items.length P' St) (hst : St 0 s.heap)
    (hP : ∀ k v, P' k v → ∃ a, items[k]? = some a ∧ VR c.w g a v) (hId : I ≠ D) (hld : l ≠ D) (hIL : I ≠ c.L) (hlL : l ≠ c.L) (hI0 : c.h₀.get? I = none) (hIg : ∀ p ∈ g, p.1 ≠ I) (S : StR c ns base ρ g (some (D, o₀)) m s.heap) (hl : look ρ Dv = .dct d₀) (hok : okD ρ Dv d₀ = true) (hat : atoms d₀ = true)
    (hbody : ∀ a d W base, body a d W → ExS c ns base st (upd (upd (forget st 0 ρ) Dv (.dct d)) i a) b W rt (fun _ => False))
    (hu : unr (fun a d K => body a d fun ρ' => onD (fun d' => atoms d' = true ∧ K d') (look ρ' Dv)) fin items d₀)
    (hret : ∀ v s' G sv m', Alike s s' → Fr c.h₀ c.L s'.heap m' → News c.h₀ c.L s'.heap G → Sub base G → rt sv → VR c.w G sv v → Q (.ret v) s')
    (hdone : ∀ (d : SV) (o : Obj) (u : Str → Option Value) (h : Heap) (tk : Nat), fin d → StR c ns base (upd (forget (i :: st) 0 ρ) Dv (.dct d)) g (some (D, o)) (fun y => if y = nameAt ns i then u y else if (stN_ ns st).contains y then u y else m y) h → Q .next { s with heap := h, toks := tk }) :
    LoopAtV PRG c.w c.A c.h₀ c.env (nameAt ns i) b Q NoE (.ref I) s := by
  obtain ⟨c1, c2, c3⟩ := S.C D o₀ rfl
  obtain ⟨vD, hvD, hcD⟩ := EnvG.look (i := Dv) S.R (by rw [hl]; intro e; cases e)
  rw [hl] at hcD
  obtain ⟨D', o', ws₀, e, rfl, hd₀, hk₀, hf₀⟩ := hcD
  cases e
  have R1 : EnvG (VR c.w g) m ns (upd ρ Dv .undef) := hasD_upd (fun sv v hn hv => (vc_plain hn).mp hv) hok S.R
  refine loop_obj (s := s) (m₀ := m) (stN_ ns st) (fun o => (D, o) :: g) (fun k o => ∃ d ws, o.IsDictOf (KND c.w) ws ∧ VRK c.w g d ws ∧ flat d = true ∧ atoms d = true ∧ unr (fun a d K => body a d fun ρ' => onD (fun d' => atoms d' = true ∧ K d') (look ρ' Dv)) fin (items.drop k) d) W ?_ ?_ ?_ hst S.F (o₀ := o₀) S.N ⟨d₀, ws₀, hd₀, hk₀, hf₀, hat, hu⟩ ?_ ?_
  · intro hm
    rcases List.mem_cons.mp hm with e | hm
    · exact hIL e.symm
    · exact hlL (List.mem_singleton.mp hm).symm
  · intro b hb; rw [List.mem_singleton.mp hb]; exact hI0
  · intro o p hp hI
    rw [List.mem_singleton] at hI
    rcases List.mem_cons.mp hp with rfl | hp
    · exact hId hI.symm
    · exact hIg p hp hI
  · rintro k v u h tk own o hk hPv ⟨d, ws, hdo, hkd, hfd, hatd, hun⟩ hown F' N'
    obtain ⟨a, ha, hva⟩ := hP k v hPv
    have hdrop : items.drop k = a :: items.drop (k + 1) := by
      obtain ⟨hlt, he⟩ := List.getElem?_eq_some_iff.mp ha
      rw [List.drop_eq_getElem_cons hlt, he]
    rw [hdrop] at hun
    have hownD : ∀ p ∈ own, p.1 ≠ D := fun p hp e => by
      rcases List.mem_cons.mp (hown p hp) with h1 | h1
      · exact hId (h1.symm.trans e)
      · exact hld ((List.mem_singleton.mp h1).symm.trans e)
    have hsg : Sub g (own ++ g) := Sub.refl.appR
    have R2 : EnvG (VC c.w (own ++ g) (some (D, o))) (fun y => if (stN_ ns st).contains y then u y else m y) ns (upd (forget st 0 ρ) Dv .undef) := by
      rw [← forget_upd]
      exact env_turn (i := i) hn hb (EnvG.imp (fun _ _ hv => vc_of (VR.mono hsg hv)) (fun _ _ => rfl) R1)
    have hmD : (if (stN_ ns st).contains (nameAt ns Dv) then u (nameAt ns Dv) else m (nameAt ns Dv)) = some (.ref D) := by
      rw [st_free hn hb hD hDst]; exact hvD
    have R3 := EnvG.defAt (sv := .dct d) (v := .ref D) (show VC c.w (own ++ g) (some (D, o)) (.dct d) (.ref D) from ⟨D, o, ws, rfl, rfl, hdo, hkd.mono hsg, hfd⟩) R2 hD hmD
    have R4 : EnvG (VC c.w (own ++ g) (some (D, o))) (fun y => if y = nameAt ns i then some v else if (stN_ ns st).contains y then u y else m y) ns (upd (upd (forget st 0 ρ) Dv (.dct d)) i a) := EnvG.upd (vc_of (hva.mono hsg)) hn hi R3
    have SB : StR c ns (own ++ g) (upd (upd (forget st 0 ρ) Dv (.dct d)) i a) (own ++ g) (some (D, o)) (fun y => if y = nameAt ns i then some v else if (stN_ ns st).contains y then u y else m y) h :=
      ⟨F', fun p hp => by
        rcases List.mem_append.mp hp with hp | hp
        · rw [List.mem_singleton.mp hp]; exact N' _ (List.mem_append_right _ (.head _))
        · rcases List.mem_append.mp hp with hp | hp
          · exact N' _ (List.mem_append_left _ hp)
          · exact N' _ (List.mem_append_right _ (.tail _ hp)), fun D' o' e => by
        cases e
        exact ⟨fun q hq => (List.mem_append.mp hq).elim (hownD q) (c1 q), c2, dict_cls hdo⟩, .refl, R4⟩
    refine hbody a d _ (own ++ g) hun _ { s with heap := h, toks := tk } (own ++ g) (some (D, o)) _ SB ⟨?_, ?_, ?_⟩
    · rintro ρ' g2 cell2 m2 s2 ⟨h2, tk2, rfl⟩ hag S2 hW
      obtain ⟨d', hd', hat', hun'⟩ := onD_iff.mp hW
      obtain ⟨v2, hv2, hc2⟩ := EnvG.look (i := Dv) S2.R (by rw [hd']; intro e; cases e)
      rw [hd'] at hc2
      obtain ⟨D2, o2, ws2, rfl, rfl, hdo2, hk2, hf2⟩ := hc2
      rw [hag _ (st_mem (st_free hn hb hD hDst))] at hv2
      have hv2 : (if nameAt ns Dv = nameAt ns i then some v else if (stN_ ns st).contains (nameAt ns Dv) then u (nameAt ns Dv) else m (nameAt ns Dv)) = some (.ref D2) := hv2
      rw [if_neg fun e => hiD (nameAt_inj hn hi hD e.symm), hmD] at hv2
      cases hv2
      refine ObjEnd.intro (own := own) S2.F S2.N (o' := o2) ⟨d', ws2, hdo2, atoms_free hat' hk2, hf2, hat', hun'⟩ (fun p hp => ?_) fun y hy hs => ?_
      · rcases List.mem_append.mp hp with hp | hp
        · exact .tail _ (S2.B p (List.mem_append_left _ hp))
        · rcases List.mem_cons.mp hp with rfl | hp
          · exact .head _
          · exact .tail _ (S2.B p (List.mem_append_right _ hp))
      · rw [hag y (st_mem hs)]
        show (if _ then _ else _) = _
        rw [if_neg hy, hs]; rfl
    · intro ρ' g2 cell2 m2 s2 _ _ _ hf; exact hf.elim
    · intro v2 s2 G sv m2 h1 F2 N2 hs2 hr hv2
      exact hret v2 s2 G sv m2 (Alike.trans ⟨_, _, rfl⟩ h1) F2 N2 ((S.B.trans hsg).trans hs2) hr hv2
  · rintro o u h tk ⟨d, ws, hdo, hkd, hfd, hatd, hun⟩ F' N'
    rw [List.drop_length] at hun
    refine hdone d o u h tk hun ⟨F', N', fun D' o' e => by cases e; exact ⟨c1, c2, dict_cls hdo⟩, S.B, ?_⟩
    have hDm : (if nameAt ns Dv = nameAt ns i then u (nameAt ns Dv) else if (stN_ ns st).contains (nameAt ns Dv) then u (nameAt ns Dv) else m (nameAt ns Dv)) = some (.ref D) := by
      rw [if_neg fun e => hiD (nameAt_inj hn hi hD e.symm), st_free hn hb hD hDst]; exact hvD
    refine EnvG.defAt (v := .ref D) (show VC c.w g (some (D, o)) (.dct d) (.ref D) from ⟨D, o, ws, rfl, rfl, hdo, hkd, hfd⟩) ?_ hD hDm
    rw [← forget_upd]
    exact env_done hn hb hi (EnvG.imp (fun _ _ hv => vc_of hv) (fun _ _ => rfl) R1)
end

section
open PySem.Calls PyProof.V
variable {c : Cx} {ns : List Str} {n : Nat} {Γ : Nat → FnT} {ρ : List SV} {base : LedT} {al : List Nat} {nx ct : Kn} {rt : SV → Prop}
theorem strs_at : ∀ {l : List Nat} {vs : List Value}, StrVs l vs → vs.length = l.length ∧ ∀ (w : World) (g : LedT) (k : Nat) (v : Value), vs[k]? = some v → ∃ a, (l.map SV.str)[k]? = some a ∧ VR w g a v
  | [], _, h => by cases h; exact ⟨rfl, fun _ _ k v h => by simp at h⟩
  | j :: l, _, ⟨t, rest, e, hk, hr⟩ => by
    subst e
    obtain ⟨h1, h2⟩ := strs_at hr
    refine ⟨by rw [List.length_cons, List.length_cons, h1], fun w g k v h => ?_⟩
    cases k with
    | zero => cases h; exact ⟨.str j, rfl, hk, t, rfl⟩
    | succ k => exact h2 w g k v h
theorem ex_ford {i Dv : Nat} {st : List Nat} {ie : IE} {it : Expr} {b ss : List Stmt} {p q : Pos} {body : SV → SV → Kn → Prop} {fin : SV → Prop} (C : Ctx c ns n Γ) (hn : ns.Nodup) (hi : i < ns.length) (ha : al.contains i = true) (hD : Dv < ns.length) (hiD : i ≠ Dv) (hDst : st.contains Dv = false) (hst : ∀ j ∈ st, al.contains j = true ∧ j < ns.length) (ho : notSet it = true) (hc : chkE (CK c ns n) ie it = true)
    (hw : wpE Γ (froz ρ) ie (itemsOf fun items => onD (fun d => (okD ρ Dv d && atoms d) = true ∧ unr (fun a d K => body a d fun ρ' => onD (fun d' => atoms d' = true ∧ K d') (look ρ' Dv)) fin items d) (look ρ Dv)))
    (hbody : ∀ a d W base, body a d W → ExS c ns base st (upd (upd (forget st 0 ρ) Dv (.dct d)) i a) b W rt (fun _ => False))
    (hfin : ∀ d base, fin d → ExS c ns base al (upd (forget (i :: st) 0 ρ) Dv (.dct d)) ss nx rt ct) : ExS c ns base al ρ (.For (.Name (nameAt ns i) q) it b [] p :: ss) nx rt ct := fun Q s g cell m S P => by
  have hb : ∀ j ∈ st, j < ns.length := fun j hj => (hst j hj).2
  refine wpAny_execs_cons (For_invVF S.F (loc_kind C (C.loc _ (nameAt_mem hi))) (by show (c.cs.kind == .class || (c.cs.kind == .module && c.L != mainGlobals)) = false; rw [C.ok.kind]; rfl) ((se_all C ie).ev _ _ hc hw m _ s _ S.F S.N S.env fun v h tk G sv F N hs hK hv => ?_) (fold_ok ho) PassesOwn.never)
  obtain ⟨g', cell', S', hgG, hgg, _, _, hval⟩ := S.grow F N hs
  have lt : ∀ p ∈ G, p.1 < h.objs.size := fun p hp => Heap.lt_size (N p hp).1
  have fin' : ∀ (items : List SV) (r : Addr) (o : Obj) (P' : Nat → Value → Prop) (St : Nat → Heap → Prop) (it' : Obj) (h' : Heap), h' = h.push it' → it'.isFreed = false → (r, o) ∈ G → o.cls ≠ .type "dict" → Walks PRG c.w c.A h.objs.size [h.objs.size, r] [h.objs.size] items.length P' St → St 0 h' →
      (∀ k v, P' k v → ∃ a, items[k]? = some a ∧ VR c.w g' a v) → onD (fun d => (okD ρ Dv d && atoms d) = true ∧ unr (fun a d K => body a d fun ρ' => onD (fun d' => atoms d' = true ∧ K d') (look ρ' Dv)) fin items d) (look ρ Dv) →
      LoopAtV PRG c.w c.A c.h₀ c.env (nameAt ns i) b (fun f s' => match f with | .next => wpAny (model PRG c.w) c.A (execs ss c.env) Q NoE s' | f => Q f s') NoE (.ref h.objs.size) { s with heap := h', toks := tk } := by
    rintro items r o P' St it' h' rfl hfr hm hcls W hst0 hP hK
    obtain ⟨d, hl, hcond, hun⟩ := onD_iff.mp hK
    obtain ⟨hok, hat⟩ := and3 hcond
    obtain ⟨vD, hvD, hcD⟩ := EnvG.look (i := Dv) S'.R (by rw [hl]; intro e; cases e)
    rw [hl] at hcD
    obtain ⟨D, oD, ws, rfl, rfl, hdo, hk, hf⟩ := hcD
    have hDN := S'.N (D, oD) (List.mem_append_left _ (.head _))
    have Sp : StR c ns base ρ g' (some (D, oD)) m (h.push it') := ⟨S'.F.push _, fun p hp => ⟨Heap.get?_push_of_some _ (S'.N p hp).1, (S'.N p hp).2⟩, S'.C, S'.B, S'.R⟩
    refine loop_dict (s := { s with heap := h.push it', toks := tk }) (d₀ := d) C hn hi hD hiD hDst hb W hst0 hP (Nat.ne_of_gt (Heap.lt_size hDN.1)) (fun e => ?_) (Nat.ne_of_gt F.ns.lt) (N _ hm).2.1 (next_is_new F) (fun p hp => Nat.ne_of_lt (lt p (hgG p hp))) Sp hl hok hat hbody hun ?_ ?_
    · have e1 := (N _ hm).1
      have e1 : h.get? r = some o := e1
      have e2 : h.get? D = some oD := hDN.1
      rw [e, e2] at e1
      exact hcls (Option.some.inj e1 ▸ dict_cls hdo)
    · intro v s' G sv m' h1 F2 N2 hs2 hr hv2
      exact P.rt v s' G sv m' (Alike.trans ⟨_, _, rfl⟩ h1) F2 N2 hs2 hr hv2
    · intro d' o' u h2 tk2 hfi S2
      refine hfin d' base hfi Q _ g' _ _ S2 (P.step ⟨_, _, rfl⟩ fun y hy => ?_)
      show (if _ then _ else _) = _
      rw [if_neg fun e => hy (List.mem_map.mpr ⟨i, List.contains_iff_mem.mp ha, e.symm⟩)]
      cases hq : (stN_ ns st).contains y with
      | false => rfl
      | true =>
        obtain ⟨j, hj, e⟩ := List.mem_map.mp (List.contains_iff_mem.mp hq)
        exact absurd (List.mem_map.mpr ⟨j, List.contains_iff_mem.mp (hst j hj).1, e⟩) hy
  cases sv <;> first | exact hK.elim | skip
  · obtain ⟨hfl, hK⟩ := hK
    obtain ⟨r, va, vb, rfl, hm, h0, h1⟩ := hv
    have hol := (N _ hm).1
    have hls : h.IsTuple r #[va, vb] := ⟨_, hol, rfl, 0, rfl⟩
    have hne : r ≠ h.objs.size := Nat.ne_of_lt (lt _ hm)
    refine wpAny_pyIter_tuple (s := { s with heap := h, toks := tk }) hls ?_
    refine fin' _ r _ _ _ _ _ rfl rfl hm cls_tup (Walks.tuple (prog := PRG) (w := c.w) rfl h.objs.size r hne #[va, vb]) ⟨⟨_, Heap.get?_push_size _ rfl, rfl, rfl⟩, hls.at fun o e => Heap.get?_push_of_some _ e⟩ (fun k v hkv => ?_) hK
    match k with
    | 0 => cases hkv; exact ⟨_, rfl, hval _ _ (by rw [(and3 hfl).1]; rfl) h0⟩
    | 1 => cases hkv; exact ⟨_, rfl, hval _ _ (by rw [(and3 hfl).2]; rfl) h1⟩
    | k + 2 => simp at hkv
  · obtain ⟨r, vs, k, rfl, hm, hsv⟩ := hv
    have hol := (N _ hm).1
    have hls : h.IsList r vs.toArray := ⟨_, hol, rfl, k, rfl⟩
    have hne : r ≠ h.objs.size := Nat.ne_of_lt (lt _ hm)
    refine wpAny_pyIter_list (s := { s with heap := h, toks := tk }) hls ?_
    have W := Walks.list (prog := PRG) (w := c.w) (A := c.A) rfl h.objs.size r hne vs.toArray
    rw [show vs.toArray.size = (List.map SV.str _).length from by rw [List.size_toArray, List.length_map]; exact (strs_at hsv).1] at W
    refine fin' _ r _ _ _ _ _ rfl rfl hm cls_list W ⟨⟨_, Heap.get?_push_size _ rfl, rfl, rfl⟩, hls.at fun o e => Heap.get?_push_of_some _ e⟩ (fun k v hkv => ?_) hK
    exact (strs_at hsv).2 _ _ k v (by simpa using hkv)
/-- the soundness of a block -/
theorem in_head {f : TV → Bool} {r : List Stmt → Bool} {ss : List Stmt} (h : kHead f r ss = true) : ∃ s ss', ss = s :: ss' ∧ f (viewS s) = true ∧ r ss' = true := by
  cases ss with
  | nil => exact bad h rfl
  | cons s ss' => exact ⟨s, ss', rfl, (and3 h).1, (and3 h).2⟩
theorem in_for {ck : Ck} {al st : List Nat} {i : Nat} {a : Expr → Bool} {b : List Stmt → Bool} {s : Stmt} (h : kFor ck al st i a b (viewS s) = true) : ∃ q it bs p, s = .For (.Name (nameAt ck.ns i) q) it bs [] p ∧ i < ck.ns.length ∧ al.contains i = true ∧ (∀ j ∈ st, al.contains j = true ∧ j < ck.ns.length) ∧ notSet it = true ∧ a it = true ∧ b bs = true := by
  obtain ⟨x, it, bs, q, p, rfl, h⟩ := in_loop h
  have h1 := and3 (and3 (and3 h).1).1
  have h2 := and3 (and3 (and3 h).1).2
  have h3 := and3 (and3 (and3 h).2).1
  rw [← eq_of_beq h1.2]
  exact ⟨q, it, bs, p, rfl, of_decide_eq_true h1.1, (and3 h2.1).1, fun j hj => ⟨(and3 (List.all_eq_true.mp h2.2 j hj)).1, of_decide_eq_true (and3 (List.all_eq_true.mp h2.2 j hj)).2⟩, h3.1, h3.2, (and3 (and3 h).2).2⟩
abbrev SS (c : Cx) (ns : List Str) (n : Nat) (Γ : Nat → FnT) (is : IS) : Prop := ∀ (al : List Nat) (ss : List Stmt) (ρ : List SV) (base : LedT) (nx : Kn) (rt : SV → Prop) (ct : Kn), chkS (CK c ns n) is al ss = true → wpS Γ is ρ nx rt ct → ExS c ns base al ρ ss nx rt ct
theorem ss_set {i : Nat} {e : IE} {r : IS} (C : Ctx c ns n Γ) (hn : ns.Nodup) (ih : SS c ns n Γ r) : SS c ns n Γ (.set i e r) := fun al ss ρ base nx rt ct h hw => by
  obtain ⟨s, ss, rfl, h1, h2⟩ := in_head h
  obtain ⟨t, v, p, rfl, h1⟩ := in_asg h1
  obtain ⟨hi, q, rfl⟩ := is_var (and3 (and3 h1).1).2
  exact ex_set (W := fun ρ' => wpS Γ r ρ' nx rt ct) C hn (and3 (and3 h1).1).1 hi (and3 (and3 h1).2).1 (and3 (and3 h1).2).2 hw fun ρ' hW base => ih al ss ρ' base nx rt ct h2 hW
theorem ss_set2 {i j : Nat} {e : IE} {r : IS} (C : Ctx c ns n Γ) (hn : ns.Nodup) (ih : SS c ns n Γ r) : SS c ns n Γ (.set2 i j e r) := fun al ss ρ base nx rt ct h hw => by
  obtain ⟨s, ss, rfl, h1, h2⟩ := in_head h
  obtain ⟨t, v, p, rfl, h1⟩ := in_asg h1
  obtain ⟨es, k, q, rfl, ht⟩ := in_tup (and3 (and3 h1).1).2
  obtain ⟨x, y, rfl, ht⟩ := in_l2 ht
  obtain ⟨hi, p1, rfl⟩ := is_var (and3 ht).1
  obtain ⟨hj, p2, rfl⟩ := is_var (and3 ht).2
  exact ex_set2 (W := fun ρ' => wpS Γ r ρ' nx rt ct) C hn (and3 (and3 (and3 h1).1).1).1 (and3 (and3 (and3 h1).1).1).2 hi hj (and3 (and3 h1).2).1 (and3 (and3 h1).2).2 hw fun ρ' hW base => ih al ss ρ' base nx rt ct h2 hW
theorem ss_setD {i : Nat} {as : IE} {r : IS} (C : Ctx c ns n Γ) (hn : ns.Nodup) (ih : SS c ns n Γ r) : SS c ns n Γ (.setD i as r) := fun al ss ρ base nx rt ct h hw => by
  obtain ⟨s, ss, rfl, h1, h2⟩ := in_head h
  obtain ⟨t, v, p, rfl, h1⟩ := in_asg h1
  obtain ⟨hi, q, rfl⟩ := is_var (and3 (and3 h1).1).2
  obtain ⟨ks, vs, q1, rfl, hd⟩ := in_dict (and3 (and3 h1).2).2
  exact ex_setD (W := fun ρ' => wpS Γ r ρ' nx rt ct) C hn (and3 (and3 h1).1).1 hi (of_decide_eq_true (and3 hd).1).2 (of_decide_eq_true (and3 hd).1).1 (and3 hd).2 hw.1 hw.2 fun ρ' hW base => ih al ss ρ' base nx rt ct h2 hW
theorem ss_setK {i : Nat} {k e : IE} {r : IS} (C : Ctx c ns n Γ) (ih : SS c ns n Γ r) : SS c ns n Γ (.setK i k e r) := fun al ss ρ base nx rt ct h hw => by
  obtain ⟨s, ss, rfl, h1, h2⟩ := in_head h
  obtain ⟨t, v, p, rfl, h1⟩ := in_asg h1
  obtain ⟨p1, p2, x, rfl, hi, hx⟩ := is_sub (and3 h1).1
  exact ex_setK (W := fun ρ' => wpS Γ r ρ' nx rt ct) C hi (and3 (and3 h1).2).1 (and3 (and3 h1).2).2 hx hw fun ρ' hW base => ih al ss ρ' base nx rt ct h2 hW
theorem ss_ifk {t : IE} {i kv : Nat} {r : IS} (C : Ctx c ns n Γ) (ih : SS c ns n Γ r) : SS c ns n Γ (.ifk t i kv r) := fun al ss ρ base nx rt ct h hw => by
  obtain ⟨s, ss, rfl, h1, h2⟩ := in_head h
  obtain ⟨e, b, p, rfl, h1⟩ := in_iff h1
  exact ex_ifk (W := fun ρ' => wpS Γ r ρ' nx rt ct) C (and3 h1).2 (and3 (and3 h1).1).1 (and3 (and3 h1).1).2 hw fun ρ' hW base => ih al ss ρ' base nx rt ct h2 hW
theorem ss_ret {e : IE} (C : Ctx c ns n Γ) : SS c ns n Γ (.ret e) := fun al ss ρ base nx rt ct h hw => by
  obtain ⟨s, ss, rfl, h1, h2⟩ := in_head h
  obtain ⟨e, p, rfl, h1⟩ := in_ret h1
  exact ex_ret C h1 hw
theorem ss_cont : SS c ns n Γ .cont := fun al ss ρ base nx rt ct h hw => by
  obtain ⟨s, ss, rfl, h1, h2⟩ := in_head h
  obtain ⟨p, rfl, h1⟩ := in_cont h1
  exact ex_cont hw
theorem ss_ifr {t : IE} {b r : IS} (C : Ctx c ns n Γ) (ih1 : SS c ns n Γ b) (ih2 : SS c ns n Γ r) : SS c ns n Γ (.ifr t b r) := fun al ss ρ base nx rt ct h hw => by
  obtain ⟨s, ss, rfl, h1, h2⟩ := in_head h
  obtain ⟨e, bs, p, rfl, h1⟩ := in_iff h1
  exact ex_if (W := fun ρ' => wpS Γ r ρ' nx rt ct) C (and3 (and3 h1).1).1 (and3 (and3 h1).1).2 hw (fun hW base => ih1 al bs ρ base _ rt ct (and3 h1).2 hW) fun ρ' hW base => ih2 al ss ρ' base nx rt ct h2 hW
theorem ss_forr {i : Nat} {st : List Nat} {it : IE} {b r : IS} (C : Ctx c ns n Γ) (hn : ns.Nodup) (ih1 : SS c ns n Γ b) (ih2 : SS c ns n Γ r) : SS c ns n Γ (.forr i st it b r) := fun al ss ρ base nx rt ct h hw => by
  obtain ⟨s, ss, rfl, h1, h2⟩ := in_head h
  obtain ⟨q, it, bs, p, rfl, hi, ha, hst, ho, hc, hbs⟩ := in_for h1
  exact ex_forr (W := fun ρ' => wpS Γ r ρ' nx rt ct) (Wb := fun ρ' => wpS Γ b ρ' (fun _ => True) rt (fun _ => True)) C hn hi ha hst ho hc hw.1 hw.2 (fun ρ' hW base => ih1 st bs ρ' base _ rt _ hbs hW) fun ρ' hW base => ih2 al ss ρ' base nx rt ct h2 hW
theorem ss_ford {i D : Nat} {st : List Nat} {it : IE} {b r : IS} (C : Ctx c ns n Γ) (hn : ns.Nodup) (ih1 : SS c ns n Γ b) (ih2 : SS c ns n Γ r) : SS c ns n Γ (.ford i D st it b r) := fun al ss ρ base nx rt ct h hw => by
  obtain ⟨s, ss, rfl, h1, h2⟩ := in_head h
  have h0 := and3 (and3 h1).1
  obtain ⟨q, it, bs, p, rfl, hi, ha, hst, ho, hc, hbs⟩ := in_for (and3 h1).2
  exact ex_ford (body := fun a d W => wpS Γ b (upd (upd (forget st 0 ρ) D (.dct d)) i a) W rt (fun _ => False)) (fin := fun d => wpS Γ r (upd (forget (i :: st) 0 ρ) D (.dct d)) nx rt ct) C hn hi ha (of_decide_eq_true (and3 h0.1).2) (of_decide_eq_true h0.2) (bnot (and3 h0.1).1) hst ho hc hw (fun a d W base hW => ih1 st bs _ base W rt _ hbs hW) fun d base hW => ih2 al ss _ base nx rt ct h2 hW
theorem ss_all (C : Ctx c ns n Γ) (hn : ns.Nodup) (is : IS) : SS c ns n Γ is :=
  IS.rec (motive := fun is => SS c ns n Γ is) (fun al ss ρ base nx rt ct h hw => by rw [List.isEmpty_iff.mp (show ss.isEmpty = true from h)]; exact ex_done hw) (fun _ _ _ ih => ss_set C hn ih) (fun _ _ _ _ ih => ss_set2 C hn ih) (fun _ _ _ ih => ss_setD C hn ih) (fun _ _ _ _ ih => ss_setK C ih) (fun _ _ _ _ ih => ss_ifk C ih)
    (fun _ ih al ss ρ base nx rt ct h hw => ex_freeze fun base => ih al ss _ base nx rt ct h hw) (fun _ => ss_ret C) ss_cont (fun _ _ _ h1 h2 => ss_ifr C h1 h2) (fun _ _ _ _ _ h1 h2 => ss_forr C hn h1 h2) (fun _ _ _ _ _ _ h1 h2 => ss_ford C hn h1 h2) is
end

section
open PySem.Calls PyProof.V
theorem lookup_mem {x : Str} {v : Value} : ∀ {l : List (Str × Value)}, (l.map (·.1)).Nodup → (x, v) ∈ l → l.lookup x = some v
  | (y, u) :: r, hn, h => by
    have hn' := List.nodup_cons.mp (show (y :: r.map (·.1)).Nodup from hn)
    rw [List.lookup_cons]
    rcases List.mem_cons.mp h with e | h
    · cases e; rw [beq_self_eq_true]
    · rw [show (x == y) = false from beq_eq_false_iff_ne.mpr fun e => hn'.1 (e ▸ List.mem_map.mpr ⟨_, h, rfl⟩)]
      exact lookup_mem hn'.2 h
theorem zip_keys : ∀ {ns : List Str} {vs : List Value}, ns.Nodup → ((ns.zip vs).map (·.1)).Nodup
  | [], _, _ => .nil
  | _ :: _, [], _ => .nil
  | x :: xs, v :: vs, h => by
    have h' := List.nodup_cons.mp h
    refine List.nodup_cons.mpr ⟨fun hm => ?_, zip_keys h'.2⟩
    obtain ⟨p, hp, e⟩ := List.mem_map.mp hm
    have e : p.1 = x := e
    exact h'.1 (by rw [← e]; exact (List.of_mem_zip hp).1)
noncomputable def undefs : Nat → List SV | 0 => [] | n + 1 => .undef :: undefs n
theorem env_init {w : World} {g : LedT} {m : Str → Option Value} {ns : List Str} : ∀ {args : List SV} {vs : List Value} {k : Nat}, VRs w g args vs → args.length + k = ns.length → (∀ x v, (x, v) ∈ ns.zip vs → m x = some v) → EnvG (VR w g) m ns (args ++ undefs k) := by
  induction ns with
  | nil =>
    intro args vs k h hl _
    cases args with
    | nil => cases k with
      | zero => exact True.intro
      | succ k => cases (show k + 1 = 0 from (Nat.zero_add _).symm.trans hl)
    | cons a as => exact absurd hl (by rw [List.length_cons, Nat.succ_add]; nofun)
  | cons x xs ih =>
    intro args vs k h hl hm
    cases args with
    | nil => cases k with
      | zero => cases hl
      | succ k => exact ⟨.inl rfl, ih (args := []) (vs := []) rfl (Nat.succ.inj hl) (fun y v hm => by rw [List.zip_nil_right] at hm; cases hm)⟩
    | cons a as =>
      obtain ⟨v, rest, rfl, h1, h2⟩ := h
      exact ⟨.inr ⟨v, hm x v (.head _), h1⟩, ih h2 (Nat.succ.inj ((Nat.succ_add _ _).symm.trans hl)) fun y u hy => hm y u (.tail _ hy)⟩
theorem vrs_len {w : World} {g : LedT} : ∀ {args : List SV} {vs : List Value}, VRs w g args vs → vs.length = args.length
  | [], _, h => by cases h; rfl
  | _ :: _, _, ⟨v, rest, e, _, h2⟩ => by rw [e, List.length_cons, List.length_cons, vrs_len h2]
theorem len0 {l : List Value} (h : l.length = 0) : True ∧ l = [] := ⟨True.intro, List.eq_nil_of_length_eq_zero h⟩
theorem len1 {l : List Value} (h : l.length = 1) : ∃ a, l = [a] := by
  cases l with
  | nil => cases h
  | cons a r => exact ⟨a, by rw [(len0 (Nat.succ.inj h)).2]⟩
theorem len2 {l : List Value} (h : l.length = 2) : ∃ a b, l = [a, b] := by
  cases l with
  | nil => cases h
  | cons a r => obtain ⟨b, rfl⟩ := len1 (Nat.succ.inj h); exact ⟨a, b, rfl⟩
theorem len3 {l : List Value} (h : l.length = 3) : ∃ a b d, l = [a, b, d] := by
  cases l with
  | nil => cases h
  | cons a r => obtain ⟨b, d, rfl⟩ := len2 (Nat.succ.inj h); exact ⟨a, b, d, rfl⟩
theorem len4 {l : List Value} (h : l.length = 4) : ∃ a b d e, l = [a, b, d, e] := by
  cases l with
  | nil => cases h
  | cons a r => obtain ⟨b, d, e, rfl⟩ := len3 (Nat.succ.inj h); exact ⟨a, b, d, e, rfl⟩
noncomputable def okFn (a : Addr) : Option (Option Value) → Bool | some (some (.ref b)) => b == a | _ => false
noncomputable def okGl (k : Int) : Option (Option Value) → Bool | some (some (.int n _)) => n == k | _ => false
noncomputable def okBl : Option (Option Value) → Bool | some none => true | _ => false
theorem okFn_is {a : Addr} {q : Option (Option Value)} (h : okFn a q = true) : q = some (some (.ref a)) := by
  rcases q with _ | _ | q <;> first | exact bad h rfl | skip
  cases q <;> first | exact bad h rfl | skip
  rw [eq_of_beq h]
theorem okGl_is {k : Int} {q : Option (Option Value)} (h : okGl k q = true) : ∃ t, q = some (some (.int k t)) := by
  rcases q with _ | _ | q <;> first | exact bad h rfl | skip
  cases q <;> first | exact bad h rfl | skip
  exact ⟨_, by rw [eq_of_beq h]⟩
theorem okBl_is {q : Option (Option Value)} (h : okBl q = true) : q = some none := by
  rcases q with _ | _ | q <;> first | exact bad h rfl | rfl
structure Tabs (w : World) : Prop where
  nsI : ∀ f, f < 28 → nsIn (hd.heap_39 w.params) mainGlobals (fnam f) = some (some (.ref (fadr f)))
  kpI : ∀ f, f < 28 → keepIn (hd.heap_39 w.params) (.ref (fadr f)) = true
  glI : ∀ k, k < 2 → ∃ t, nsIn (hd.heap_39 w.params) mainGlobals (gnam k) = some (some (.int (gval k) t))
  blI : ∀ k, k < 3 → nsIn (hd.heap_39 w.params) mainGlobals (bnam k) = some none
theorem tabs_of {w : World} (h1 : ((List.range 28).all fun f => okFn (fadr f) (nsIn (hd.heap_39 w.params) mainGlobals (fnam f)) && keepIn (hd.heap_39 w.params) (.ref (fadr f))) = true)
    (h2 : ((List.range 2).all fun k => okGl (gval k) (nsIn (hd.heap_39 w.params) mainGlobals (gnam k))) = true) (h3 : ((List.range 3).all fun k => okBl (nsIn (hd.heap_39 w.params) mainGlobals (bnam k))) = true) : Tabs w where
  nsI f hf := okFn_is (and3 (List.all_eq_true.mp h1 f (List.mem_range.mpr hf))).1
  kpI f hf := (and3 (List.all_eq_true.mp h1 f (List.mem_range.mpr hf))).2
  glI k hk := okGl_is (List.all_eq_true.mp h2 k (List.mem_range.mpr hk))
  blI k hk := okBl_is (List.all_eq_true.mp h3 k (List.mem_range.mpr hk))
noncomputable def scOk (ns : List Str) (scope : Scope) : Bool := decide ns.Nodup && (ns.all fun x => locOk scope x && decide (scope.names.lookup x = some .local)) && (scope.names.all fun x => decide (x.2 ≠ .cell))
/-- what a block's end hands on -/
abbrev flV (fl : Flow) : Value := match fl with | .ret v => v | _ => .none
theorem lt_eq {a b d : Nat} (h : a = b) (k : b < d) : a < d := h ▸ k
noncomputable def Cx.callee (c : Cx) (qual : Str) (scope : Scope) (L' f : Addr) (cdv : Value) (g' : Heap) : Cx :=
  { w := c.w, dp := c.dp + 1, un := c.un + 3, gd := c.gd, cn := qual, cs := scope, L := L', a := f, cd := cdv, cl := [], outer := envX c.cn c.cs c.L c.a c.cd c.cl :: c.outer, A₀ := c.A, base := c.base, h₀ := g', loose := c.loose, mean := c.mean, mg := c.mg, mb := c.mb }
/-- the frame of a def of the file -/
theorem frame_of {n ar : Nat} {f : Addr} {name qual : Str} {params : Arguments} {body : List Stmt} {scope : Scope} {dV kV doc pm cdv ct oc : Value} {an od : Option Addr} {osl : Array (Option Value)} (ns : List Str) {c : Cx} {m : Str → Option Value} {s : Shared} {g : LedT} {vs : List Value} {Q : Value → Shared → Prop}
    (ho : (hd.heap_39 c.w.params).lookup f = some ⟨oc, od, .func (fnOf name qual params body scope dV kV doc pm an cdv ct), osl⟩) (hcd : codeIn (hd.heap_39 c.w.params) cdv qual = true)
    (hb : ∀ vs : List Value, vs.length = ar → bindArgs (fnOf name qual params body scope dV kV doc pm an cdv ct) ⟨vs, []⟩ = pure (ns.zip vs))
    (hsc : scOk ns scope = true) (hco : scope.isCoroutine = false) (hgen : scope.isGenerator = false) (hk : scope.kind = .function)
    (B : Below c.A₀ c.base c.outer c.h₀) (X : (hd.heap_39 c.w.params).In c.h₀) (Tp : Top hd.view_39 c.loose c.mean c.mg c.mb c.h₀) (hkd : c.cs.kind = .function) (hroom : c.dp + (n + 10) < recursionLimit) (hun : c.un + 8 * (n + 10) < cLine)
    (F : Fr c.h₀ c.L s.heap m) (N : News c.h₀ c.L s.heap g) (hvl : vs.length = ar)
    (hT : ∀ (L' : Addr) (g' h : Heap) (tk : Nat) (m' : Str → Option Value) (P : Flow → Shared → Prop), (c.callee qual scope L' f cdv g').Ok n → (∀ x ∈ ns, locOk scope x = true) → ns.Nodup → Fr g' L' h m' → News g' L' h g → (∀ x u, (x, u) ∈ ns.zip vs → m' x = some u) →
      (∀ fl h2 tk2 m2 g2, Fr g' L' h2 m2 → News g' L' h2 g2 → (Fr c.h₀ c.L h2 m → News c.h₀ c.L h2 g2 → Q (flV fl) { s with heap := h2, toks := tk2 }) → P fl { s with heap := h2, toks := tk2 }) →
      wpAny (model PRG c.w) (c.callee qual scope L' f cdv g').A (execs body (c.callee qual scope L' f cdv g').env) P NoE { s with heap := h, toks := tk }) : wpAny (model PRG c.w) c.A (call (.ref f) vs) Q NoE s := by
  have h12 := and3 hsc
  have h1 := and3 h12.1
  have hnd : ns.Nodup := of_decide_eq_true h1.1
  refine wpAny_call (code_def (env := envX c.cn c.cs c.L c.a c.cd c.cl) (outer := c.outer) (news := g) (binds := ns.zip vs) B F X N Tp rfl rfl hkd ho hcd (Nat.lt_of_le_of_lt (Nat.le_add_right _ _) hroom) (BindsTo.of_eq (hb vs hvl)) (fun y hy => of_decide_eq_true (and3 (List.all_eq_true.mp h1.2 y.1 (List.of_mem_zip hy).1)).2) ?_ hco hgen hk (fun x hx => of_decide_eq_true (List.all_eq_true.mp h12.2 x hx)))
  intro g' L' h₁ FG F' N' B' X' T'
  exact wpAny_mono (hT L' g' h₁ _ _ _
    ⟨B', X', T', hk, lt_eq (by show c.dp + 1 + (n + 9) = c.dp + (n + 10); rw [Nat.add_assoc, Nat.add_comm 1]) hroom, Nat.lt_of_le_of_lt (by show c.un + 3 + 8 * (n + 9) ≤ c.un + 8 * (n + 10); rw [Nat.add_assoc]; exact Nat.add_le_add_left (by rw [Nat.mul_succ 8 (n + 9), Nat.add_comm]; exact Nat.add_le_add_left (by decide) _) _) hun⟩
    (fun x hx => (and3 (List.all_eq_true.mp h1.2 x hx)).1) hnd F' N' (fun x u hm => lookup_mem (by rw [List.map_reverse]; exact List.pairwise_reverse.mpr ((zip_keys hnd).imp fun h e => h e.symm)) (List.mem_reverse.mpr hm)) fun fl h2 tk2 m2 g2 F2 N2 k => by cases fl <;> exact leaveK_ F2 N2 k) (fun fl s' q => q) fun _ _ h => h.elim
theorem fspec_of {w : World} {n : Nat} {Γ : Nat → FnT} {f : Addr} {T : FnT} {name qual : Str} {params : Arguments} {body : List Stmt} {scope : Scope} {dV kV doc pm cdv ct oc : Value} {an od : Option Addr} {osl : Array (Option Value)} (ns : List Str) (ar k : Nat) (ir : IS)
    (tabs : Tabs w) (hn : n ≤ 28) (har : ar + k = ns.length) (hΓ : ∀ g, g < n → FSpec w (fadr g) (g + 10) (Γ g))
    (ho : (hd.heap_39 w.params).lookup f = some ⟨oc, od, .func (fnOf name qual params body scope dV kV doc pm an cdv ct), osl⟩) (hcd : codeIn (hd.heap_39 w.params) cdv qual = true)
    (hb : ∀ vs : List Value, vs.length = ar → bindArgs (fnOf name qual params body scope dV kV doc pm an cdv ct) ⟨vs, []⟩ = pure (ns.zip vs))
    (hsc : scOk ns scope = true) (hco : scope.isCoroutine = false) (hgen : scope.isGenerator = false) (hk : scope.kind = .function)
    (hc : chkS ⟨ns, scope, n⟩ ir (List.range ns.length) body = true)
    (hT : ∀ args K, T args K → args.length = ar ∧ wpS Γ ir (args ++ undefs k) (fun _ => K .none) K (fun _ => False)) : FSpec w f (n + 10) T := by
  intro args K hTa c m s g vs Q hw B X Tp hkd hroom hun F N hv kk
  subst hw
  have h0 := hT args K hTa
  refine frame_of (n := n) ns ho hcd hb hsc hco hgen hk B X Tp hkd hroom hun F N ((vrs_len hv).trans h0.1) fun L' g' h tk m' P O' hloc hnd F' N' hm fin => ?_
  have C' : Ctx (c.callee qual scope L' f cdv g') ns n Γ := ⟨O', hloc, hΓ, fun f hf => tabs.nsI f (Nat.lt_of_lt_of_le hf hn), fun f hf => tabs.kpI f (Nat.lt_of_lt_of_le hf hn), tabs.glI, tabs.blI⟩
  have S' : StR (c.callee qual scope L' f cdv g') ns g (args ++ undefs k) g none m' h :=
    ⟨F', N', fun _ _ e => (nomatch e), .refl, EnvG.imp (fun _ _ => vc_of) (fun _ _ => rfl) (env_init hv (by rw [h0.1, har]) hm)⟩
  refine ss_all C' hnd ir (List.range ns.length) body _ g _ K _ hc h0.2 _ _ g none _ S' ⟨?_, fun _ _ _ _ _ _ _ _ h => h.elim, ?_⟩
  · rintro ρ' g2 cell2 m2 s2 ⟨h2, tk2, rfl⟩ _ S2 hK
    exact fin .next h2 tk2 m2 _ S2.F S2.N fun F3 N3 => kk .none _ _ _ _ F3 N3 (S2.B.trans Sub.refl.appR) hK rfl
  · rintro v s2 G sv m2 ⟨h2, tk2, rfl⟩ F2 N2 hs2 hr hv2
    exact fin (.ret v) h2 tk2 m2 _ F2 N2 fun F3 N3 => kk v _ _ _ _ F3 N3 hs2 hr hv2
end

theorem q_onB {K : Bool → Prop} {b : Bool} : onB K (.bool b) = K b := rfl
theorem q_onI {K : Int → Prop} {n : Int} : onI K (.int n) = K n := rfl
theorem q_onS {K : Nat → Prop} {k : Nat} : onS K (.str k) = K k := rfl
theorem q_onF {K : SV → Prop} {e : SV} : onF K (.fdct e) = K e := rfl
theorem q_onL {K : List Int → Prop} {l : List Int} : onL K (.ints l) = K l := rfl
theorem q_onD {K : SV → Prop} {e : SV} : onD K (.dct e) = K e := rfl
theorem q_onT {K : SV → SV → Prop} {a b : SV} : onT K (.tup a b) = K a b := rfl
theorem q_onZ {K : Prop} : onZ K .none = K := rfl
theorem q_onU_none {K : SV → Prop}  : onU K (.none) = K (.none) := rfl
theorem q_onU_bool {K : SV → Prop} {b : Bool} : onU K (.bool b) = K (.bool b) := rfl
theorem q_onU_int {K : SV → Prop} {n : Int} : onU K (.int n) = K (.int n) := rfl
theorem q_onU_str {K : SV → Prop} {k : Nat} : onU K (.str k) = K (.str k) := rfl
theorem q_onU_tup {K : SV → Prop} {a b : SV} : onU K (.tup a b) = K (.tup a b) := rfl
theorem q_onU_ints {K : SV → Prop} {l : List Int} : onU K (.ints l) = K (.ints l) := rfl
theorem q_onU_strs {K : SV → Prop} {l : List Nat} : onU K (.strs l) = K (.strs l) := rfl
theorem q_onU_fdct {K : SV → Prop} {e : SV} : onU K (.fdct e) = K (.fdct e) := rfl
theorem q_un_neg {K : SV → Prop} : unS .neg K = onI fun n => K (.int (-n)) := rfl
theorem q_un_not {K : SV → Prop} : unS .not K = onB fun b => K (.bool (!b)) := rfl
theorem q_un_it0 {K : SV → Prop} : unS .it0 K = onT fun a _ => K a := rfl
theorem q_un_it1 {K : SV → Prop} : unS .it1 K = onT fun _ b => K b := rfl
theorem q_un_abs {K : SV → Prop} : unS .abs K = onI fun n => K (.int (if n < 0 then -n else n)) := rfl
theorem q_un_mxL {K : SV → Prop} : unS .mxL K = onL fun l => 0 < l.length ∧ ∀ M, M ∈ l → (∀ a ∈ l, a ≤ M) → K (.int M) := rfl
theorem q_un_mnL {K : SV → Prop} : unS .mnL K = onL fun l => 0 < l.length ∧ ∀ M, M ∈ l → (∀ a ∈ l, M ≤ a) → K (.int M) := rfl
theorem q_un_one {K : SV → Prop} : unS .one K = K := rfl
theorem q_bi_sub {i j : Int} {K : SV → Prop} : biS .sub (.int i) (.int j) K = K (.int (i - j)) := rfl
theorem q_bi_mul {i j : Int} {K : SV → Prop} : biS .mul (.int i) (.int j) K = ((i.natAbs < 1099511627776 ∧ j.natAbs < 1099511627776) ∧ K (.int (i * j))) := rfl
theorem q_bi_fdiv {i j : Int} {K : SV → Prop} : biS .fdiv (.int i) (.int j) K = ((0 < j ∧ j < 1099511627776) ∧ K (.int (i / j))) := rfl
theorem q_bi_mod {i j : Int} {K : SV → Prop} : biS .mod (.int i) (.int j) K = (0 < j ∧ K (.int (i % j))) := rfl
theorem q_bi_add {i j : Int} {K : SV → Prop} : biS .add (.int i) (.int j) K = K (.int (i + j)) := rfl
theorem q_bi_lt {i j : Int} {K : SV → Prop} : biS .lt (.int i) (.int j) K = K (.bool (decide (i < j))) := rfl
theorem q_bi_le {i j : Int} {K : SV → Prop} : biS .le (.int i) (.int j) K = K (.bool (decide (i ≤ j))) := rfl
theorem q_bi_gt {i j : Int} {K : SV → Prop} : biS .gt (.int i) (.int j) K = K (.bool (decide (j < i))) := rfl
theorem q_bi_ge {i j : Int} {K : SV → Prop} : biS .ge (.int i) (.int j) K = K (.bool (decide (j ≤ i))) := rfl
theorem q_bi_eq {i j : Int} {K : SV → Prop} : biS .eq (.int i) (.int j) K = K (.bool (decide (i = j))) := rfl
theorem q_bi_ne {i j : Int} {K : SV → Prop} : biS .ne (.int i) (.int j) K = K (.bool (!decide (i = j))) := rfl
theorem q_bi_mx {i j : Int} {K : SV → Prop} : biS .mx (.int i) (.int j) K = K (.int (max i j)) := rfl
theorem q_bi_mn {i j : Int} {K : SV → Prop} : biS .mn (.int i) (.int j) K = K (.int (min i j)) := rfl
theorem q_cat {l l' : List Int} {K : SV → Prop} : biS .add (.ints l) (.ints l') K = (l.length + l'.length ≤ 64 ∧ K (.ints (l ++ l'))) := rfl
theorem q_eq_s {i j : Nat} {K : SV → Prop} : biS .eq (.str i) (.str j) K = K (.bool ((i == j))) := rfl
theorem q_eq_b {i j : Bool} {K : SV → Prop} : biS .eq (.bool i) (.bool j) K = K (.bool ((i == j))) := rfl
theorem q_eq_n {K : SV → Prop} : biS .eq .none .none K = K (.bool true) := rfl
theorem q_eq_t {a b c d : SV} {K : SV → Prop} : biS .eq (.tup a b) (.tup c d) K = ((isDat 3 (.tup a b) && isDat 3 (.tup c d)) = true ∧ K (.bool ((eqD (.tup a b) (.tup c d))))) := rfl
theorem q_ne_s {i j : Nat} {K : SV → Prop} : biS .ne (.str i) (.str j) K = K (.bool (!(i == j))) := rfl
theorem q_ne_b {i j : Bool} {K : SV → Prop} : biS .ne (.bool i) (.bool j) K = K (.bool (!(i == j))) := rfl
theorem q_ne_n {K : SV → Prop} : biS .ne .none .none K = K (.bool (!true)) := rfl
theorem q_ne_t {a b c d : SV} {K : SV → Prop} : biS .ne (.tup a b) (.tup c d) K = ((isDat 3 (.tup a b) && isDat 3 (.tup c d)) = true ∧ K (.bool (!(eqD (.tup a b) (.tup c d))))) := rfl
theorem q_is_n {K : SV → Prop} : biS .is .none .none K = K (.bool true) := rfl
theorem q_is_t {a b : SV} {K : SV → Prop} : biS .is (.tup a b) .none K = K (.bool false) := rfl
theorem q_isnot_n {K : SV → Prop} : biS .isnot .none .none K = K (.bool (!true)) := rfl
theorem q_isnot_t {a b : SV} {K : SV → Prop} : biS .isnot (.tup a b) .none K = K (.bool (!false)) := rfl
theorem q_eqD_i {i j : Int} : eqD (.int i) (.int j) = decide (i = j) := rfl
theorem q_eqD_t {a b c d : SV} : eqD (.tup a b) (.tup c d) = (eqD a c && eqD b d) := rfl
theorem q_froz_n : froz [] = [] := rfl
theorem q_froz_c {x : SV} {r : List SV} : froz (x :: r) = frz x :: froz r := rfl
theorem q_frz_none : frz (.none) = .none := rfl
theorem q_frz_bool {b : Bool} : frz (.bool b) = .bool b := rfl
theorem q_frz_int {n : Int} : frz (.int n) = .int n := rfl
theorem q_frz_str {k : Nat} : frz (.str k) = .str k := rfl
theorem q_frz_tup {a b : SV} : frz (.tup a b) = .tup a b := rfl
theorem q_frz_ints {l : List Int} : frz (.ints l) = .ints l := rfl
theorem q_frz_strs {l : List Nat} : frz (.strs l) = .strs l := rfl
theorem q_frz_fdct {e : SV} : frz (.fdct e) = .fdct e := rfl
theorem q_frz_undef : frz .undef = .undef := rfl
theorem q_frz_dct {e : SV} : frz (.dct e) = .fdct e := rfl
theorem q_look_z {x : SV} {r : List SV} : look (x :: r) 0 = x := rfl
theorem q_look_s {x : SV} {r : List SV} {n : Nat} : look (x :: r) (n + 1) = look r n := rfl
theorem q_upd_z {x y : SV} {r : List SV} : upd (x :: r) 0 y = y :: r := rfl
theorem q_upd_s {x y : SV} {r : List SV} {n : Nat} : upd (x :: r) (n + 1) y = x :: upd r n y := rfl
theorem q_und_z : undefs 0 = [] := rfl
theorem q_und_s {n : Nat} : undefs (n + 1) = .undef :: undefs n := rfl
theorem q_app_n {l : List SV} : ([] ++ l : List SV) = l := rfl
theorem q_app_c {x : SV} {r l : List SV} : ((x :: r) ++ l : List SV) = x :: (r ++ l) := rfl
theorem q_mkL {ch : SV} {K : SV → Prop} : mkL K ch = gInts ch (fun l => K (.ints l)) (gStrs ch (fun l => K (.strs l)) False) := rfl
theorem q_gI_n {K : List Int → Prop} {F : Prop} : gInts .dnil K F = K [] := rfl
theorem q_gI_i {K : List Int → Prop} {F : Prop} {k : Nat} {n : Int} {r : SV} : gInts (.dcons k (.int n) r) K F = gInts r (fun l => K (n :: l)) F := rfl
theorem q_gI_s {K : List Int → Prop} {F : Prop} {k n : Nat} {r : SV} : gInts (.dcons k (.str n) r) K F = F := rfl
theorem q_gS_n {K : List Nat → Prop} {F : Prop} : gStrs .dnil K F = K [] := rfl
theorem q_gS_i {K : List Nat → Prop} {F : Prop} {k n : Nat} {r : SV} : gStrs (.dcons k (.str n) r) K F = gStrs r (fun l => K (n :: l)) F := rfl
theorem q_toL_n : toL .dnil = [] := rfl
theorem q_toL_c {k : Nat} {x r : SV} : toL (.dcons k x r) = x :: toL r := rfl
theorem q_dget {k j : Nat} {x r : SV} : dget (.dcons k x r) j = bif k == j then x else dget r j := rfl
theorem q_dset_c {k j : Nat} {x r y : SV} : dset (.dcons k x r) j y = bif k == j then .dcons k y r else .dcons k x (dset r j y) := rfl
theorem q_dset_n {j : Nat} {y : SV} : dset .dnil j y = .dcons j y .dnil := rfl
theorem q_cond_t {a b : SV} : (bif true then a else b) = a := rfl
theorem q_cond_f {a b : SV} : (bif false then a else b) = b := rfl
theorem q_for_n {st : List Nat} {i : Nat} : forget st i [] = [] := rfl
theorem q_for_c {st : List Nat} {i : Nat} {x : SV} {r : List SV} : forget st i (x :: r) = (bif st.contains i then .undef else x) :: forget st (i + 1) r := rfl
theorem q_allI_i {P : SV → Prop} {l : List Int} : allI P (.ints l) = ∀ n ∈ l, P (.int n) := rfl
theorem q_allI_s {P : SV → Prop} {l : List Nat} : allI P (.strs l) = allN P l := rfl
theorem q_allI_f {P : SV → Prop} {e : SV} : allI P (.fdct e) = allK P e := rfl
theorem q_allN_n {P : SV → Prop} : allN P [] = True := rfl
theorem q_allN_c {P : SV → Prop} {k : Nat} {r : List Nat} : allN P (k :: r) = (P (.str k) ∧ allN P r) := rfl
theorem q_allK_n {P : SV → Prop} : allK P .dnil = True := rfl
theorem q_allK_c {P : SV → Prop} {k : Nat} {x r : SV} : allK P (.dcons k x r) = (P (.str k) ∧ allK P r) := rfl
theorem q_it_t {K : List SV → Prop} {a b : SV} : itemsOf K (.tup a b) = ((flat a && flat b) = true ∧ K [a, b]) := rfl
theorem q_it_s {K : List SV → Prop} {l : List Nat} : itemsOf K (.strs l) = K (l.map SV.str) := rfl
theorem q_unr_n {body : SV → SV → (SV → Prop) → Prop} {fin : SV → Prop} {d : SV} : unr body fin [] d = fin d := rfl
theorem q_unr_c {body : SV → SV → (SV → Prop) → Prop} {fin : SV → Prop} {a d : SV} {as : List SV} : unr body fin (a :: as) d = body a d (unr body fin as) := rfl
theorem q_isD_none : isD (.none) = false := rfl
theorem q_isD_bool {b : Bool} : isD (.bool b) = false := rfl
theorem q_isD_int {n : Int} : isD (.int n) = false := rfl
theorem q_isD_str {k : Nat} : isD (.str k) = false := rfl
theorem q_isD_tup {a b : SV} : isD (.tup a b) = false := rfl
theorem q_isD_ints {l : List Int} : isD (.ints l) = false := rfl
theorem q_isD_strs {l : List Nat} : isD (.strs l) = false := rfl
theorem q_isD_fdct {e : SV} : isD (.fdct e) = false := rfl
theorem q_isD_undef : isD .undef = false := rfl
theorem q_isD_dct {e : SV} : isD (.dct e) = true := rfl
theorem q_hasD_n : hasD [] = false := rfl
theorem q_hasD_c {x : SV} {r : List SV} : hasD (x :: r) = (isD x || hasD r) := rfl
theorem q_flat_none : flat (.none) = true := rfl
theorem q_flat_bool {b : Bool} : flat (.bool b) = true := rfl
theorem q_flat_int {n : Int} : flat (.int n) = true := rfl
theorem q_flat_str {k : Nat} : flat (.str k) = true := rfl
theorem q_flat_ints {l : List Int} : flat (.ints l) = true := rfl
theorem q_flat_strs {l : List Nat} : flat (.strs l) = true := rfl
theorem q_flat_tup {a b : SV} : flat (.tup a b) = (flat a && flat b) := rfl
theorem q_flat_fdct {e : SV} : flat (.fdct e) = false := rfl
theorem q_flat_dnil : flat .dnil = true := rfl
theorem q_flat_dcons {k : Nat} {x r : SV} : flat (.dcons k x r) = (flat x && flat r) := rfl
theorem q_tor {b : Bool} : (true || b) = true := rfl
theorem q_for_b {b : Bool} : (false || b) = b := rfl
theorem q_tand {b : Bool} : (true && b) = b := rfl
theorem q_fand {b : Bool} : (false && b) = false := rfl
theorem q_nt : (!true) = false := rfl
theorem q_nf : (!false) = true := rfl

noncomputable def ns_full : List Str := []
noncomputable def ir_full : IS :=
  .ret (.tup (.lit (.int (-2147483648))) (.lit (.int 2147483647)))
noncomputable def ns_clipped : List Str := [Str.ofString "low", Str.ofString "high", Str.ofString "beyond"]
noncomputable def ir_clipped : IS :=
  .set 2 (.bo false (.bi .lt (.var 0) (.lit (.int (-2147483648)))) (.un .one (.bi .gt (.var 1) (.lit (.int 2147483647))))) 
  (.set 0 (.bi .mx (.var 0) (.lit (.int (-2147483648)))) 
  (.set 1 (.bi .mn (.var 1) (.lit (.int 2147483647))) 
  (.ifr (.bi .gt (.var 0) (.var 1)) (.ret (.tup (.call 0 .anil) (.lit (.bool true)))) 
  (.ret (.tup (.tup (.var 0) (.var 1)) (.var 2))))))
noncomputable def ns_add : List Str := [Str.ofString "x", Str.ofString "y"]
noncomputable def ir_add : IS :=
  .ret (.call 1 (.acons 0 (.bi .add (.un .it0 (.var 0)) (.un .it0 (.var 1))) (.acons 0 (.bi .add (.un .it1 (.var 0)) (.un .it1 (.var 1))) .anil)))
noncomputable def ns_sub : List Str := [Str.ofString "x", Str.ofString "y"]
noncomputable def ir_sub : IS :=
  .ret (.call 1 (.acons 0 (.bi .sub (.un .it0 (.var 0)) (.un .it1 (.var 1))) (.acons 0 (.bi .sub (.un .it1 (.var 0)) (.un .it0 (.var 1))) .anil)))
noncomputable def ns_mul : List Str := [Str.ofString "x", Str.ofString "y", Str.ofString "ends"]
noncomputable def ir_mul : IS :=
  .set 2 (.lst (.acons 0 (.bi .mul (.un .it0 (.var 0)) (.un .it0 (.var 1))) (.acons 0 (.bi .mul (.un .it0 (.var 0)) (.un .it1 (.var 1))) (.acons 0 (.bi .mul (.un .it1 (.var 0)) (.un .it0 (.var 1))) (.acons 0 (.bi .mul (.un .it1 (.var 0)) (.un .it1 (.var 1))) .anil))))) 
  (.ret (.call 1 (.acons 0 (.un .mnL (.var 2)) (.acons 0 (.un .mxL (.var 2)) .anil))))
noncomputable def ns_neg : List Str := [Str.ofString "x"]
noncomputable def ir_neg : IS :=
  .ret (.call 1 (.acons 0 (.bi .sub (.lit (.int 0)) (.un .it1 (.var 0))) (.acons 0 (.bi .sub (.lit (.int 0)) (.un .it0 (.var 0))) .anil)))
noncomputable def ns_absolute : List Str := [Str.ofString "x"]
noncomputable def ir_absolute : IS :=
  .ifr (.bi .ge (.un .it0 (.var 0)) (.lit (.int 0))) (.ret (.tup (.var 0) (.lit (.bool false)))) 
  (.ifr (.bi .le (.un .it1 (.var 0)) (.lit (.int 0))) (.ret (.call 5 (.acons 0 (.var 0) .anil))) 
  (.ret (.call 1 (.acons 0 (.lit (.int 0)) (.acons 0 (.bi .mx (.bi .sub (.lit (.int 0)) (.un .it0 (.var 0))) (.un .it1 (.var 0))) .anil)))))
noncomputable def ns_div : List Str := [Str.ofString "x", Str.ofString "y", Str.ofString "traps", Str.ofString "low", Str.ofString "ends"]
noncomputable def ir_div : IS :=
  .set 2 (.bi .le (.un .it0 (.var 1)) (.lit (.int 0))) 
  (.ifr (.bi .le (.un .it1 (.var 1)) (.lit (.int 0))) (.ret (.tup (.call 0 .anil) (.lit (.bool true)))) 
  (.set 3 (.bi .mx (.un .it0 (.var 1)) (.lit (.int 1))) 
  (.set 4 (.lst (.acons 0 (.bi .fdiv (.un .it0 (.var 0)) (.var 3)) (.acons 0 (.bi .fdiv (.un .it0 (.var 0)) (.un .it1 (.var 1))) (.acons 0 (.bi .fdiv (.un .it1 (.var 0)) (.var 3)) (.acons 0 (.bi .fdiv (.un .it1 (.var 0)) (.un .it1 (.var 1))) .anil))))) 
  (.ret (.tup (.tup (.un .mnL (.var 4)) (.un .mxL (.var 4))) (.var 2))))))
noncomputable def ns_mod : List Str := [Str.ofString "x", Str.ofString "y", Str.ofString "traps", Str.ofString "high"]
noncomputable def ir_mod : IS :=
  .set 2 (.bi .le (.un .it0 (.var 1)) (.lit (.int 0))) 
  (.ifr (.bi .le (.un .it1 (.var 1)) (.lit (.int 0))) (.ret (.tup (.call 0 .anil) (.lit (.bool true)))) 
  (.ifr (.bo true (.bi .ge (.un .it0 (.var 0)) (.lit (.int 0))) (.un .one (.bi .lt (.un .it1 (.var 0)) (.bi .mx (.un .it0 (.var 1)) (.lit (.int 1)))))) (.ret (.tup (.var 0) (.var 2))) 
  (.set 3 (.bi .sub (.un .it1 (.var 1)) (.lit (.int 1))) 
  (.ifr (.bi .ge (.un .it0 (.var 0)) (.lit (.int 0))) (.set 3 (.bi .mn (.var 3) (.un .it1 (.var 0))) .done) 
  (.ret (.tup (.tup (.lit (.int 0)) (.var 3)) (.var 2)))))))
noncomputable def ns_contains : List Str := [Str.ofString "x", Str.ofString "n"]
noncomputable def ir_contains : IS :=
  .ret (.bo true (.bi .le (.un .it0 (.var 0)) (.var 1)) (.un .one (.bi .le (.var 1) (.un .it1 (.var 0)))))
noncomputable def ns_within : List Str := [Str.ofString "x", Str.ofString "y"]
noncomputable def ir_within : IS :=
  .ret (.bo true (.bi .le (.un .it0 (.var 1)) (.un .it0 (.var 0))) (.un .one (.bi .le (.un .it1 (.var 0)) (.un .it1 (.var 1)))))
noncomputable def ns_join : List Str := [Str.ofString "x", Str.ofString "y"]
noncomputable def ir_join : IS :=
  .ret (.tup (.bi .mn (.un .it0 (.var 0)) (.un .it0 (.var 1))) (.bi .mx (.un .it1 (.var 0)) (.un .it1 (.var 1))))
noncomputable def ns_widen : List Str := [Str.ofString "older", Str.ofString "newer", Str.ofString "low", Str.ofString "high"]
noncomputable def ir_widen : IS :=
  .set 2 (.ite (.bi .ge (.un .it0 (.var 1)) (.un .it0 (.var 0))) (.un .it0 (.var 0)) (.lit (.int (-2147483648)))) 
  (.set 3 (.ite (.bi .le (.un .it1 (.var 1)) (.un .it1 (.var 0))) (.un .it1 (.var 0)) (.lit (.int 2147483647))) 
  (.ret (.tup (.var 2) (.var 3))))
noncomputable def ns_meet : List Str := [Str.ofString "x", Str.ofString "y", Str.ofString "low", Str.ofString "high"]
noncomputable def ir_meet : IS :=
  .set 2 (.bi .mx (.un .it0 (.var 0)) (.un .it0 (.var 1))) 
  (.set 3 (.bi .mn (.un .it1 (.var 0)) (.un .it1 (.var 1))) 
  (.ifr (.bi .gt (.var 2) (.var 3)) (.ret (.lit .none)) 
  (.ret (.tup (.var 2) (.var 3)))))
noncomputable def ns_below : List Str := [Str.ofString "x", Str.ofString "y", Str.ofString "gap", Str.ofString "left", Str.ofString "right"]
noncomputable def ir_below : IS :=
  .ifr (.bo false (.bi .lt (.bi .sub (.un .it1 (.var 1)) (.var 2)) (.lit (.int (-2147483648)))) (.un .one (.bi .gt (.bi .add (.un .it0 (.var 0)) (.var 2)) (.lit (.int 2147483647))))) (.ret (.lit .none)) 
  (.set 3 (.call 13 (.acons 0 (.var 0) (.acons 0 (.tup (.lit (.int (-2147483648))) (.bi .sub (.un .it1 (.var 1)) (.var 2))) .anil))) 
  (.set 4 (.call 13 (.acons 0 (.var 1) (.acons 0 (.tup (.bi .add (.un .it0 (.var 0)) (.var 2)) (.lit (.int 2147483647))) .anil))) 
  (.ifr (.bo false (.bi .is (.var 3) (.lit .none)) (.un .one (.bi .is (.var 4) (.lit .none)))) (.ret (.lit .none)) 
  (.ret (.tup (.var 3) (.var 4))))))
noncomputable def ns_without : List Str := [Str.ofString "x", Str.ofString "n"]
noncomputable def ir_without : IS :=
  .ifr (.bo true (.bi .eq (.un .it0 (.var 0)) (.var 1)) (.un .one (.bi .eq (.un .it1 (.var 0)) (.var 1)))) (.ret (.lit .none)) 
  (.ifr (.bi .eq (.un .it0 (.var 0)) (.var 1)) (.ret (.tup (.bi .add (.var 1) (.lit (.int 1))) (.un .it1 (.var 0)))) 
  (.ifr (.bi .eq (.un .it1 (.var 0)) (.var 1)) (.ret (.tup (.un .it0 (.var 0)) (.bi .sub (.var 1) (.lit (.int 1))))) 
  (.ret (.var 0))))
noncomputable def ns_apart : List Str := [Str.ofString "x", Str.ofString "y", Str.ofString "left", Str.ofString "right"]
noncomputable def ir_apart : IS :=
  .set 2 (.ite (.bi .eq (.un .it0 (.var 1)) (.un .it1 (.var 1))) (.call 15 (.acons 0 (.var 0) (.acons 0 (.un .it0 (.var 1)) .anil))) (.var 0)) 
  (.set 3 (.ite (.bi .eq (.un .it0 (.var 0)) (.un .it1 (.var 0))) (.call 15 (.acons 0 (.var 1) (.acons 0 (.un .it0 (.var 0)) .anil))) (.var 1)) 
  (.ifr (.bo false (.bi .is (.var 2) (.lit .none)) (.un .one (.bi .is (.var 3) (.lit .none)))) (.ret (.lit .none)) 
  (.ret (.tup (.var 2) (.var 3)))))
noncomputable def ns_narrow : List Str := [Str.ofString "op", Str.ofString "x", Str.ofString "y", Str.ofString "turned", Str.ofString "both"]
noncomputable def ir_narrow : IS :=
  .ifr (.bi .eq (.var 0) (.lit (.str 0))) (.set 4 (.call 13 (.acons 0 (.var 1) (.acons 0 (.var 2) .anil))) 
    (.ret (.ite (.bi .is (.var 4) (.lit .none)) (.lit .none) (.tup (.var 4) (.var 4))))) 
  (.ifr (.bi .eq (.var 0) (.lit (.str 1))) (.ret (.call 16 (.acons 0 (.var 1) (.acons 0 (.var 2) .anil)))) 
  (.ifr (.bo false (.bi .eq (.var 0) (.lit (.str 2))) (.un .one (.bi .eq (.var 0) (.lit (.str 3))))) (.ret (.call 14 (.acons 0 (.var 1) (.acons 0 (.var 2) (.acons 0 (.ite (.bi .eq (.var 0) (.lit (.str 2))) (.lit (.int 1)) (.lit (.int 0))) .anil))))) 
  (.set 3 (.call 14 (.acons 0 (.var 2) (.acons 0 (.var 1) (.acons 0 (.ite (.bi .eq (.var 0) (.lit (.str 4))) (.lit (.int 1)) (.lit (.int 0))) .anil)))) 
  (.ret (.ite (.bi .is (.var 3) (.lit .none)) (.lit .none) (.tup (.un .it1 (.var 3)) (.un .it0 (.var 3))))))))
noncomputable def ns_opposite : List Str := [Str.ofString "op"]
noncomputable def ir_opposite : IS :=
  .ret (.key (.dict (.acons 0 (.lit (.str 1)) (.acons 1 (.lit (.str 0)) (.acons 2 (.lit (.str 5)) (.acons 5 (.lit (.str 2)) (.acons 4 (.lit (.str 3)) (.acons 3 (.lit (.str 4)) .anil))))))) (.var 0))
noncomputable def ns_law_ok : List Str := [Str.ofString "n"]
noncomputable def ir_law_ok : IS :=
  .ret (.bo true (.bi .ge (.var 0) (.un .neg (.lit (.int 2147483648)))) (.un .one (.bi .le (.var 0) (.lit (.int 2147483647)))))
noncomputable def ns_law_floor : List Str := [Str.ofString "a", Str.ofString "b", Str.ofString "n"]
noncomputable def ir_law_floor : IS :=
  .set 2 (.bi .fdiv (.un .abs (.var 0)) (.var 1)) 
  (.ifr (.bo true (.bi .lt (.var 0) (.lit (.int 0))) (.un .one (.bi .ne (.bi .mul (.var 2) (.var 1)) (.un .neg (.var 0))))) (.ret (.bi .sub (.un .neg (.var 2)) (.lit (.int 1)))) 
  (.ret (.ite (.bi .ge (.var 0) (.lit (.int 0))) (.var 2) (.un .neg (.var 2)))))
noncomputable def ns_law_results : List Str := [Str.ofString "a", Str.ofString "b", Str.ofString "found"]
noncomputable def ir_law_results : IS :=
  .setD 2 (.acons 6 (.bi .add (.var 0) (.var 1)) (.acons 7 (.bi .sub (.var 0) (.var 1)) (.acons 8 (.bi .mul (.var 0) (.var 1)) (.acons 9 (.un .neg (.var 0)) (.acons 10 (.un .abs (.var 0)) .anil))))) 
  (.ifr (.bi .gt (.var 1) (.lit (.int 0))) (.setK 2 (.lit (.str 11)) (.call 20 (.acons 0 (.var 0) (.acons 0 (.var 1) .anil))) 
    (.setK 2 (.lit (.str 12)) (.bi .sub (.var 0) (.bi .mul (.var 1) (.call 20 (.acons 0 (.var 0) (.acons 0 (.var 1) .anil))))) .done)) 
  (.ret (.var 2)))
noncomputable def ns_law_traps : List Str := [Str.ofString "x", Str.ofString "y", Str.ofString "traps", Str.ofString "deed", Str.ofString "a", Str.ofString "b"]
noncomputable def ir_law_traps : IS :=
  .setD 2 (.acons 11 (.bi .lt (.un .it0 (.var 1)) (.lit (.int 1))) (.acons 12 (.bi .lt (.un .it0 (.var 1)) (.lit (.int 1))) .anil)) 
  (.ford 3 2 [4, 5] (.lst (.acons 0 (.lit (.str 6)) (.acons 0 (.lit (.str 7)) (.acons 0 (.lit (.str 8)) (.acons 0 (.lit (.str 9)) (.acons 0 (.lit (.str 10)) .anil))))))
    (.setK 2 (.var 3) (.lit (.bool false)) 
      (.ford 4 2 [5] (.var 0)
        (.ford 5 2 [] (.var 1)
            (.ifk (.un .not (.call 19 (.acons 0 (.key (.call 21 (.acons 0 (.var 4) (.acons 0 (.var 5) .anil))) (.var 3)) .anil))) 2 3 .done) .done) .done)) 
  (.ret (.var 2)))
noncomputable def ns_law_deeds : List Str := [Str.ofString "x", Str.ofString "y", Str.ofString "firsts", Str.ofString "seconds", Str.ofString "made", Str.ofString "traps", Str.ofString "deed", Str.ofString "a", Str.ofString "b", Str.ofString "ends", Str.ofString "can_trap", Str.ofString "results"]
noncomputable def ir_law_deeds : IS :=
  .setD 4 (.acons 6 (.call 2 (.acons 0 (.var 0) (.acons 0 (.var 1) .anil))) (.acons 7 (.call 3 (.acons 0 (.var 0) (.acons 0 (.var 1) .anil))) (.acons 8 (.call 4 (.acons 0 (.var 0) (.acons 0 (.var 1) .anil))) (.acons 9 (.call 5 (.acons 0 (.var 0) .anil)) .anil)))) 
  (.setK 4 (.lit (.str 10)) (.call 6 (.acons 0 (.var 0) .anil)) 
  (.setK 4 (.lit (.str 11)) (.call 7 (.acons 0 (.var 0) (.acons 0 (.var 1) .anil))) 
  (.setK 4 (.lit (.str 12)) (.call 8 (.acons 0 (.var 0) (.acons 0 (.var 1) .anil))) 
  (.freeze (.set 5 (.call 22 (.acons 0 (.var 0) (.acons 0 (.var 1) .anil))) 
  (.forr 6 [9, 10] (.var 5)
    (.set2 9 10 (.key (.var 4) (.var 6)) 
      (.ifr (.bo false (.bi .ne (.var 10) (.key (.var 5) (.var 6))) (.bo false (.un .not (.call 19 (.acons 0 (.un .it0 (.var 9)) .anil))) (.bo false (.un .not (.call 19 (.acons 0 (.un .it1 (.var 9)) .anil))) (.un .one (.bi .gt (.un .it0 (.var 9)) (.un .it1 (.var 9))))))) (.ret (.lit (.bool false))) .done)) 
  (.forr 7 [8, 11, 6, 9] (.var 2)
    (.forr 8 [11, 6, 9] (.var 3)
        (.set 11 (.call 21 (.acons 0 (.var 7) (.acons 0 (.var 8) .anil))) 
          (.forr 6 [9] (.var 11)
            (.set 9 (.un .it0 (.key (.var 4) (.var 6))) 
              (.ifr (.bo true (.call 19 (.acons 0 (.key (.var 11) (.var 6)) .anil)) (.un .one (.bo false (.bi .lt (.key (.var 11) (.var 6)) (.un .it0 (.var 9))) (.un .one (.bi .gt (.key (.var 11) (.var 6)) (.un .it1 (.var 9))))))) (.ret (.lit (.bool false))) .done)) .done)) .done) 
  (.ret (.lit (.bool true))))))))))
noncomputable def ns_law_true : List Str := [Str.ofString "op", Str.ofString "a", Str.ofString "b"]
noncomputable def ir_law_true : IS :=
  .ifr (.bo false (.bi .eq (.var 0) (.lit (.str 0))) (.un .one (.bi .eq (.var 0) (.lit (.str 1))))) (.ret (.bi .eq (.bi .eq (.var 1) (.var 2)) (.bi .eq (.var 0) (.lit (.str 0))))) 
  (.ifr (.bo false (.bi .eq (.var 0) (.lit (.str 2))) (.un .one (.bi .eq (.var 0) (.lit (.str 5))))) (.ret (.bi .eq (.bi .lt (.var 1) (.var 2)) (.bi .eq (.var 0) (.lit (.str 2))))) 
  (.ret (.bi .eq (.bi .gt (.var 1) (.var 2)) (.bi .eq (.var 0) (.lit (.str 4))))))
noncomputable def ns_law_can : List Str := [Str.ofString "op", Str.ofString "x", Str.ofString "y"]
noncomputable def ir_law_can : IS :=
  .ifr (.bi .eq (.var 0) (.lit (.str 0))) (.ret (.un .not (.bo false (.bi .lt (.un .it1 (.var 1)) (.un .it0 (.var 2))) (.un .one (.bi .lt (.un .it1 (.var 2)) (.un .it0 (.var 1))))))) 
  (.ifr (.bi .eq (.var 0) (.lit (.str 1))) (.ret (.un .not (.bo true (.bi .eq (.un .it0 (.var 1)) (.un .it1 (.var 1))) (.bo true (.bi .eq (.un .it0 (.var 2)) (.un .it1 (.var 2))) (.un .one (.bi .eq (.un .it0 (.var 1)) (.un .it0 (.var 2)))))))) 
  (.ifr (.bo false (.bi .eq (.var 0) (.lit (.str 2))) (.un .one (.bi .eq (.var 0) (.lit (.str 3))))) (.ret (.call 24 (.acons 0 (.var 0) (.acons 0 (.un .it0 (.var 1)) (.acons 0 (.un .it1 (.var 2)) .anil))))) 
  (.ret (.call 24 (.acons 0 (.var 0) (.acons 0 (.un .it1 (.var 1)) (.acons 0 (.un .it0 (.var 2)) .anil)))))))
noncomputable def ns_law_narrowed : List Str := [Str.ofString "x", Str.ofString "y", Str.ofString "firsts", Str.ofString "seconds", Str.ofString "op", Str.ofString "found", Str.ofString "a", Str.ofString "b"]
noncomputable def ir_law_narrowed : IS :=
  .forr 4 [5, 6, 7] (.lst (.acons 0 (.lit (.str 0)) (.acons 0 (.lit (.str 1)) (.acons 0 (.lit (.str 2)) (.acons 0 (.lit (.str 3)) (.acons 0 (.lit (.str 4)) (.acons 0 (.lit (.str 5)) .anil)))))))
    (.set 5 (.call 17 (.acons 0 (.var 4) (.acons 0 (.var 0) (.acons 0 (.var 1) .anil)))) 
      (.ifr (.bi .ne (.call 25 (.acons 0 (.var 4) (.acons 0 (.var 0) (.acons 0 (.var 1) .anil)))) (.bi .isnot (.var 5) (.lit .none))) (.ret (.lit (.bool false))) 
      (.ifr (.bi .is (.var 5) (.lit .none)) (.cont) 
      (.ifr (.bo false (.un .not (.call 10 (.acons 0 (.un .it0 (.var 5)) (.acons 0 (.var 0) .anil)))) (.un .one (.un .not (.call 10 (.acons 0 (.un .it1 (.var 5)) (.acons 0 (.var 1) .anil)))))) (.ret (.lit (.bool false))) 
      (.forr 6 [7] (.var 2)
        (.forr 7 [] (.var 3)
            (.ifr (.bo true (.call 24 (.acons 0 (.var 4) (.acons 0 (.var 6) (.acons 0 (.var 7) .anil)))) (.un .one (.un .not (.bo true (.call 9 (.acons 0 (.un .it0 (.var 5)) (.acons 0 (.var 6) .anil))) (.un .one (.call 9 (.acons 0 (.un .it1 (.var 5)) (.acons 0 (.var 7) .anil)))))))) (.ret (.lit (.bool false))) 
              (.ifr (.bi .eq (.call 24 (.acons 0 (.call 18 (.acons 0 (.var 4) .anil)) (.acons 0 (.var 6) (.acons 0 (.var 7) .anil)))) (.call 24 (.acons 0 (.var 4) (.acons 0 (.var 6) (.acons 0 (.var 7) .anil))))) (.ret (.lit (.bool false))) .done)) .done) .done))))) 
  (.ret (.bi .eq (.call 16 (.acons 0 (.var 0) (.acons 0 (.var 1) .anil))) (.call 17 (.acons 0 (.lit (.str 1)) (.acons 0 (.var 0) (.acons 0 (.var 1) .anil))))))
noncomputable def ns_law_together : List Str := [Str.ofString "x", Str.ofString "y", Str.ofString "firsts", Str.ofString "seconds", Str.ofString "hull", Str.ofString "made_wide", Str.ofString "common", Str.ofString "n", Str.ofString "held"]
noncomputable def ir_law_together : IS :=
  .set 4 (.call 11 (.acons 0 (.var 0) (.acons 0 (.var 1) .anil))) 
  (.set 5 (.call 12 (.acons 0 (.var 0) (.acons 0 (.var 1) .anil))) 
  (.set 6 (.call 13 (.acons 0 (.var 0) (.acons 0 (.var 1) .anil))) 
  (.ifr (.bi .ne (.var 4) (.tup (.bi .mn (.un .it0 (.var 0)) (.un .it0 (.var 1))) (.bi .mx (.un .it1 (.var 0)) (.un .it1 (.var 1))))) (.ret (.lit (.bool false))) 
  (.ifr (.bo false (.bi .ne (.un .it0 (.var 5)) (.ite (.bi .ge (.un .it0 (.var 1)) (.un .it0 (.var 0))) (.un .it0 (.var 0)) (.un .neg (.lit (.int 2147483648))))) (.un .one (.bi .ne (.un .it1 (.var 5)) (.ite (.bi .le (.un .it1 (.var 1)) (.un .it1 (.var 0))) (.un .it1 (.var 0)) (.lit (.int 2147483647)))))) (.ret (.lit (.bool false))) 
  (.ifr (.bi .ne (.call 10 (.acons 0 (.var 0) (.acons 0 (.var 1) .anil))) (.bi .eq (.var 4) (.var 1))) (.ret (.lit (.bool false))) 
  (.forr 7 [8] (.bi .add (.var 2) (.var 3))
    (.set 8 (.bo true (.bi .le (.un .it0 (.var 0)) (.var 7)) (.bo true (.bi .le (.var 7) (.un .it1 (.var 0))) (.bo true (.bi .le (.un .it0 (.var 1)) (.var 7)) (.un .one (.bi .le (.var 7) (.un .it1 (.var 1))))))) 
      (.ifr (.bi .ne (.var 8) (.bo true (.bi .isnot (.var 6) (.lit .none)) (.un .one (.call 9 (.acons 0 (.var 6) (.acons 0 (.var 7) .anil)))))) (.ret (.lit (.bool false))) 
      (.ifr (.bo false (.un .not (.call 9 (.acons 0 (.var 4) (.acons 0 (.var 7) .anil)))) (.un .one (.un .not (.call 9 (.acons 0 (.var 5) (.acons 0 (.var 7) .anil)))))) (.ret (.lit (.bool false))) .done))) 
  (.ret (.bi .eq (.bi .is (.var 6) (.lit .none)) (.bo false (.bi .lt (.un .it1 (.var 0)) (.un .it0 (.var 1))) (.un .one (.bi .lt (.un .it1 (.var 1)) (.un .it0 (.var 0)))))))))))))

noncomputable def ClipJ (a b lo hi : Int) (bb : Bool) : Prop := -2147483648 ≤ lo ∧ lo ≤ hi ∧ hi ≤ 2147483647 ∧ bb = decide (a < -2147483648 ∨ 2147483647 < b) ∧ ∀ v, a ≤ v → v ≤ b → -2147483648 ≤ v → v ≤ 2147483647 → lo ≤ v ∧ v ≤ hi
noncomputable def DeedJ (f : Int → Int → Int) (dom : Int → Prop) (x0 x1 y0 y1 : Int) (T : Prop) (lo hi : Int) (bb : Bool) : Prop :=
  -2147483648 ≤ lo ∧ lo ≤ hi ∧ hi ≤ 2147483647 ∧ (bb = true ↔ T) ∧ ∀ a b, x0 ≤ a → a ≤ x1 → y0 ≤ b → b ≤ y1 → dom b → -2147483648 ≤ f a b → f a b ≤ 2147483647 → lo ≤ f a b ∧ f a b ≤ hi
noncomputable def Out (n : Int) : Prop := n < -2147483648 ∨ 2147483647 < n
noncomputable def Trap4 (f : Int → Int → Int) (x0 x1 y0 y1 : Int) : Prop := Out (f x0 y0) ∨ Out (f x0 y1) ∨ Out (f x1 y0) ∨ Out (f x1 y1)
noncomputable def all2 (_ : Int) : Prop := True
noncomputable def fAdd (a b : Int) : Int := a + b
noncomputable def fSub (a b : Int) : Int := a - b
noncomputable def fMul (a b : Int) : Int := a * b
noncomputable def fNeg (a _b : Int) : Int := -a
noncomputable def fAbs (a _b : Int) : Int := if a < 0 then -a else a
noncomputable def fDiv (a b : Int) : Int := a / b
noncomputable def fMod (a b : Int) : Int := a - b * (a / b)
theorem out4 {L H a b c d : Int} (ha : L ≤ a ∧ a ≤ H) (hb : L ≤ b ∧ b ≤ H) (hc : L ≤ c ∧ c ≤ H) (hd : L ≤ d ∧ d ≤ H) (hL : -2147483648 ≤ L ∨ L = a ∨ L = b ∨ L = c ∨ L = d) (hH : H = a ∨ H = b ∨ H = c ∨ H = d) : (L < -2147483648 ∨ 2147483647 < H) ↔ Out a ∨ Out b ∨ Out c ∨ Out d := by
  have up : ∀ {v : Int}, L ≤ v ∧ v ≤ H → Out v → L < -2147483648 ∨ 2147483647 < H := fun hv h => h.imp (Int.lt_of_le_of_lt hv.1) fun k => Int.lt_of_lt_of_le k hv.2
  refine ⟨fun h => h.elim (fun h => ?_) fun h => ?_, fun h => h.elim (up ha) fun h => h.elim (up hb) fun h => h.elim (up hc) (up hd)⟩
  · have lo : ∀ {v : Int}, L = v → Out v := fun e => .inl (e ▸ h)
    exact hL.elim (fun e => absurd h (Int.not_lt.mpr e)) (Or.imp lo (Or.imp lo (Or.imp lo lo)))
  · have hi : ∀ {v : Int}, H = v → Out v := fun e => .inr (e ▸ h)
    exact hH.imp hi (Or.imp hi (Or.imp hi hi))
section
variable {x0 x1 y0 y1 lo hi : Int} {bb : Bool}
theorem deed_of {f : Int → Int → Int} {L H : Int} (h : ClipJ L H lo hi bb) (ha : L ≤ f x0 y0 ∧ f x0 y0 ≤ H) (hb : L ≤ f x0 y1 ∧ f x0 y1 ≤ H) (hc : L ≤ f x1 y0 ∧ f x1 y0 ≤ H) (hd : L ≤ f x1 y1 ∧ f x1 y1 ≤ H)
    (hL : -2147483648 ≤ L ∨ L = f x0 y0 ∨ L = f x0 y1 ∨ L = f x1 y0 ∨ L = f x1 y1) (hH : H = f x0 y0 ∨ H = f x0 y1 ∨ H = f x1 y0 ∨ H = f x1 y1) (hv : ∀ a b, x0 ≤ a → a ≤ x1 → y0 ≤ b → b ≤ y1 → L ≤ f a b ∧ f a b ≤ H) :
    DeedJ f all2 x0 x1 y0 y1 (Trap4 f x0 x1 y0 y1) lo hi bb :=
  ⟨h.1, h.2.1, h.2.2.1, by rw [h.2.2.2.1, decide_eq_true_eq]; exact out4 ha hb hc hd hL hH, fun a b p1 p2 p3 p4 _ q1 q2 => h.2.2.2.2 _ (hv a b p1 p2 p3 p4).1 (hv a b p1 p2 p3 p4).2 q1 q2⟩
theorem deed_add (hx : x0 ≤ x1) (hy : y0 ≤ y1) (h : ClipJ (x0 + y0) (x1 + y1) lo hi bb) : DeedJ fAdd all2 x0 x1 y0 y1 (Trap4 fAdd x0 x1 y0 y1) lo hi bb :=
  have hv : ∀ a b, x0 ≤ a → a ≤ x1 → y0 ≤ b → b ≤ y1 → x0 + y0 ≤ fAdd a b ∧ fAdd a b ≤ x1 + y1 := fun _ _ p1 p2 p3 p4 => ⟨Int.add_le_add p1 p3, Int.add_le_add p2 p4⟩
  have r := Int.le_refl
  deed_of h (hv _ _ (r _) hx (r _) hy) (hv _ _ (r _) hx hy (r _)) (hv _ _ hx (r _) (r _) hy) (hv _ _ hx (r _) hy (r _)) (.inr (.inl rfl)) (.inr (.inr (.inr rfl))) hv
theorem deed_sub (hx : x0 ≤ x1) (hy : y0 ≤ y1) (h : ClipJ (x0 - y1) (x1 - y0) lo hi bb) : DeedJ fSub all2 x0 x1 y0 y1 (Trap4 fSub x0 x1 y0 y1) lo hi bb :=
  have hv : ∀ a b, x0 ≤ a → a ≤ x1 → y0 ≤ b → b ≤ y1 → x0 - y1 ≤ fSub a b ∧ fSub a b ≤ x1 - y0 := fun _ _ p1 p2 p3 p4 => ⟨Int.sub_le_sub p1 p4, Int.sub_le_sub p2 p3⟩
  have r := Int.le_refl
  deed_of h (hv _ _ (r _) hx (r _) hy) (hv _ _ (r _) hx hy (r _)) (hv _ _ hx (r _) (r _) hy) (hv _ _ hx (r _) hy (r _)) (.inr (.inr (.inl rfl))) (.inr (.inr (.inl rfl))) hv
theorem deed_neg (hx : x0 ≤ x1) (h : ClipJ (0 - x1) (0 - x0) lo hi bb) : DeedJ fNeg all2 x0 x1 y0 y1 (Trap4 fNeg x0 x1 y0 y1) lo hi bb := by
  rw [Int.zero_sub, Int.zero_sub] at h
  have hv : ∀ a b, x0 ≤ a → a ≤ x1 → -x1 ≤ fNeg a b ∧ fNeg a b ≤ -x0 := fun _ _ p1 p2 => ⟨Int.neg_le_neg p2, Int.neg_le_neg p1⟩
  exact deed_of h (hv _ _ (Int.le_refl _) hx) (hv _ _ (Int.le_refl _) hx) (hv _ _ hx (Int.le_refl _)) (hv _ _ hx (Int.le_refl _)) (.inr (.inr (.inr (.inl rfl)))) (.inl rfl) fun a b p1 p2 _ _ => hv a b p1 p2
end

section
variable {x0 x1 y0 y1 lo hi : Int} {bb : Bool}
theorem mul_hull {a x0 x1 c : Int} (h0 : x0 ≤ a) (h1 : a ≤ x1) : (a * c ≤ x0 * c ∨ a * c ≤ x1 * c) ∧ (x0 * c ≤ a * c ∨ x1 * c ≤ a * c) := by
  by_cases hc : 0 ≤ c
  · exact ⟨.inr (Int.mul_le_mul_of_nonneg_right h1 hc), .inl (Int.mul_le_mul_of_nonneg_right h0 hc)⟩
  · have hc' : c ≤ 0 := Int.le_of_lt (Int.not_le.mp hc)
    exact ⟨.inl (Int.mul_le_mul_of_nonpos_right h0 hc'), .inr (Int.mul_le_mul_of_nonpos_right h1 hc')⟩
/-- a bound of the four corners bounds what lies between them -/
theorem hull_lo {m v p q p0 p1 q0 q1 : Int} (h : p ≤ v ∨ q ≤ v) (hp : p0 ≤ p ∨ p1 ≤ p) (hq : q0 ≤ q ∨ q1 ≤ q) (hb : m ≤ p0 ∧ m ≤ p1 ∧ m ≤ q0 ∧ m ≤ q1) : m ≤ v :=
  h.elim (fun h => Int.le_trans (hp.elim (Int.le_trans hb.1) (Int.le_trans hb.2.1)) h) fun h => Int.le_trans (hq.elim (Int.le_trans hb.2.2.1) (Int.le_trans hb.2.2.2)) h
theorem hull_hi {m v p q p0 p1 q0 q1 : Int} (h : v ≤ p ∨ v ≤ q) (hp : p ≤ p0 ∨ p ≤ p1) (hq : q ≤ q0 ∨ q ≤ q1) (hb : p0 ≤ m ∧ p1 ≤ m ∧ q0 ≤ m ∧ q1 ≤ m) : v ≤ m :=
  h.elim (fun h => Int.le_trans h (hp.elim (fun k => Int.le_trans k hb.1) fun k => Int.le_trans k hb.2.1)) fun h => Int.le_trans h (hq.elim (fun k => Int.le_trans k hb.2.2.1) fun k => Int.le_trans k hb.2.2.2)
theorem deed_mul {mm MM : Int} (hx : x0 ≤ x1) (hy : y0 ≤ y1) (h : ClipJ mm MM lo hi bb)
    (ha : mm = x0 * y0 ∨ mm = x0 * y1 ∨ mm = x1 * y0 ∨ mm = x1 * y1) (hb : mm ≤ x0 * y0 ∧ mm ≤ x0 * y1 ∧ mm ≤ x1 * y0 ∧ mm ≤ x1 * y1)
    (ha' : MM = x0 * y0 ∨ MM = x0 * y1 ∨ MM = x1 * y0 ∨ MM = x1 * y1) (hb' : x0 * y0 ≤ MM ∧ x0 * y1 ≤ MM ∧ x1 * y0 ≤ MM ∧ x1 * y1 ≤ MM) :
    DeedJ fMul all2 x0 x1 y0 y1 (Trap4 fMul x0 x1 y0 y1) lo hi bb :=
  deed_of h ⟨hb.1, hb'.1⟩ ⟨hb.2.1, hb'.2.1⟩ ⟨hb.2.2.1, hb'.2.2.1⟩ ⟨hb.2.2.2, hb'.2.2.2⟩ (.inr ha) ha' fun a b p1 p2 p3 p4 => by
    have q1 := mul_hull (c := b) p1 p2
    have q2 := mul_hull (c := x0) p3 p4
    have q3 := mul_hull (c := x1) p3 p4
    simp only [Int.mul_comm _ x0, Int.mul_comm _ x1] at q2 q3
    exact ⟨hull_lo q1.2 q2.2 q3.2 hb, hull_hi q1.1 q2.1 q3.1 hb'⟩
theorem fabs_nn {a b : Int} (h : 0 ≤ a) : fAbs a b = a := if_neg (Int.not_lt.mpr h)
theorem fabs_np {a b : Int} (h : a < 0) : fAbs a b = -a := if_pos h
theorem no_out {v : Int} (h1 : -2147483648 ≤ v) (h2 : v ≤ 2147483647) (h : Out v) : False := h.elim (Int.not_lt.mpr h1) (Int.not_lt.mpr h2)
theorem deed_abs1 (hx : x0 ≤ x1) (hh : x1 ≤ 2147483647) (h : 0 ≤ x0) : DeedJ fAbs all2 x0 x1 y0 y1 (Trap4 fAbs x0 x1 y0 y1) x0 x1 false := by
  have m : ∀ {v : Int}, 0 ≤ v → -2147483648 ≤ v := fun h => Int.le_trans (by decide) h
  refine ⟨m h, hx, hh, ⟨nofun, fun t => ?_⟩, fun a b p1 p2 _ _ _ _ _ => ?_⟩
  · rw [Trap4, fabs_nn h, fabs_nn h, fabs_nn (Int.le_trans h hx), fabs_nn (Int.le_trans h hx)] at t
    have k0 := no_out (m h) (Int.le_trans hx hh)
    have k1 := no_out (m (Int.le_trans h hx)) hh
    exact (t.elim k0 fun t => t.elim k0 fun t => t.elim k1 k1).elim
  · rw [fabs_nn (Int.le_trans h p1)]; exact ⟨p1, p2⟩
theorem deed_abs2 (hx : x0 ≤ x1) (hx1 : x1 ≤ 0) (h : DeedJ fNeg all2 x0 x1 y0 y1 (Trap4 fNeg x0 x1 y0 y1) lo hi bb) : DeedJ fAbs all2 x0 x1 y0 y1 (Trap4 fAbs x0 x1 y0 y1) lo hi bb := by
  have e : ∀ a b, a ≤ x1 → fAbs a b = fNeg a b := fun a b ha => (Int.lt_or_eq_of_le (Int.le_trans ha hx1)).elim (fun k => fabs_np k) fun k => by rw [k]; rfl
  obtain ⟨h1, h2, h3, h4, h5⟩ := h
  refine ⟨h1, h2, h3, ?_, ?_⟩
  · rw [h4, Trap4, Trap4, e x0 _ hx, e x0 _ hx, e x1 _ (Int.le_refl _), e x1 _ (Int.le_refl _)]
  · intro a b p1 p2 p3 p4 p5
    rw [e a b p2]; exact h5 a b p1 p2 p3 p4 p5
theorem deed_abs3 (hx0 : ¬ 0 ≤ x0) (hx1 : ¬ x1 ≤ 0) (h : ClipJ 0 (max (0 - x0) x1) lo hi bb) : DeedJ fAbs all2 x0 x1 y0 y1 (Trap4 fAbs x0 x1 y0 y1) lo hi bb := by
  have n0 := Int.not_le.mp hx0
  have p1 := Int.le_of_lt (Int.not_le.mp hx1)
  rw [Int.zero_sub] at h
  have hn : -x0 ≤ max (-x0) x1 := Int.le_max_left _ _
  have hp : x1 ≤ max (-x0) x1 := Int.le_max_right _ _
  have g0 : 0 ≤ -x0 := Int.neg_nonneg_of_nonpos (Int.le_of_lt n0)
  have e0 : ∀ b, fAbs x0 b = -x0 := fun b => fabs_np n0
  have e1 : ∀ b, fAbs x1 b = x1 := fun b => fabs_nn p1
  refine deed_of h ?_ ?_ ?_ ?_ (.inl (by decide)) ?_ fun a b q1 q2 _ _ => ?_
  · rw [e0]; exact ⟨g0, hn⟩
  · rw [e0]; exact ⟨g0, hn⟩
  · rw [e1]; exact ⟨p1, hp⟩
  · rw [e1]; exact ⟨p1, hp⟩
  · rw [e0, e0, e1, e1]
    exact (Int.le_total (-x0) x1).elim (fun k => .inr (.inr (.inl (Int.max_eq_right k)))) fun k => .inl (Int.max_eq_left k)
  · exact (Int.lt_or_le a 0).elim (fun k => by rw [fabs_np k]; exact ⟨Int.neg_nonneg_of_nonpos (Int.le_of_lt k), Int.le_trans (Int.neg_le_neg q1) hn⟩) fun k => by rw [fabs_nn k]; exact ⟨k, Int.le_trans q2 hp⟩
theorem div_pos_anti {a b c : Int} (ha : 0 ≤ a) (hb : 0 < b) (hc : b ≤ c) : a / c ≤ a / b := by
  have hc0 : 0 < c := by omega
  refine (Int.le_ediv_iff_mul_le hb).mpr ?_
  have hq : 0 ≤ a / c := Int.ediv_nonneg ha (by omega)
  have h1 : a / c * b ≤ a / c * c := Int.mul_le_mul_of_nonneg_left hc hq
  have h2 := Int.ediv_mul_le a (show c ≠ 0 by omega)
  omega
theorem div_neg_mono {a b c : Int} (ha : a < 0) (hb : 0 < b) (hc : b ≤ c) : a / b ≤ a / c := by
  have hc0 : 0 < c := by omega
  refine (Int.le_ediv_iff_mul_le hc0).mpr ?_
  have hq : a / b ≤ 0 := by
    have := Int.ediv_neg_of_neg_of_pos ha hb
    omega
  have h1 : a / b * c ≤ a / b * b := Int.mul_le_mul_of_nonpos_left hq hc
  have h2 := Int.ediv_mul_le a (show b ≠ 0 by omega)
  omega
theorem div_hull {a b l u : Int} (hl : 0 < l) (h1 : l ≤ b) (h2 : b ≤ u) : (a / b ≤ a / l ∨ a / b ≤ a / u) ∧ (a / l ≤ a / b ∨ a / u ≤ a / b) := by
  by_cases ha : 0 ≤ a
  · exact ⟨.inl (div_pos_anti ha hl h1), .inr (div_pos_anti ha (by omega) h2)⟩
  · exact ⟨.inr (div_neg_mono (by omega) (by omega) h2), .inl (div_neg_mono (by omega) hl h1)⟩
theorem div_small {a b : Int} (hb : 0 < b) : (a / b ≤ a ∨ a / b ≤ 0) ∧ (a ≤ a / b ∨ 0 ≤ a / b) := by
  by_cases ha : 0 ≤ a
  · have h1 := div_pos_anti ha (show (0 : Int) < 1 by omega) (show 1 ≤ b by omega)
    have h2 : 0 ≤ a / b := Int.ediv_nonneg ha (by omega)
    rw [Int.ediv_one] at h1
    omega
  · have h1 := div_neg_mono (show a < 0 by omega) (show (0 : Int) < 1 by omega) (show 1 ≤ b by omega)
    have h2 := Int.ediv_neg_of_neg_of_pos (show a < 0 by omega) hb
    rw [Int.ediv_one] at h1
    omega
theorem div_lo {a b : Int} (h : -2147483648 ≤ a) (hb : 0 < b) : -2147483648 ≤ a / b := (div_small hb).2.elim (Int.le_trans h) (Int.le_trans (by decide))
theorem div_hi {a b : Int} (h : a ≤ 2147483647) (hb : 0 < b) : a / b ≤ 2147483647 := (div_small hb).1.elim (fun k => Int.le_trans k h) fun k => Int.le_trans k (by decide)
theorem trap_y {y0 : Int} : decide (y0 ≤ 0) = true ↔ y0 < 1 := decide_eq_true_iff.trans Int.lt_add_one_iff.symm
theorem deed_divL {l mm MM : Int} (hl : l = max y0 1) (hx : x0 ≤ x1) (hy : y0 ≤ y1) (h0 : -2147483648 ≤ x0) (h1 : x1 ≤ 2147483647) (hp : ¬ y1 ≤ 0)
    (ha : mm = x0 / l ∨ mm = x0 / y1 ∨ mm = x1 / l ∨ mm = x1 / y1) (hb : mm ≤ x0 / l ∧ mm ≤ x0 / y1 ∧ mm ≤ x1 / l ∧ mm ≤ x1 / y1)
    (ha' : MM = x0 / l ∨ MM = x0 / y1 ∨ MM = x1 / l ∨ MM = x1 / y1) (hb' : x0 / l ≤ MM ∧ x0 / y1 ≤ MM ∧ x1 / l ≤ MM ∧ x1 / y1 ≤ MM) :
    DeedJ fDiv (0 < ·) x0 x1 y0 y1 (y0 < 1) mm MM (decide (y0 ≤ 0)) := by
  have hl0 : 0 < l := by rw [hl]; exact Int.lt_of_lt_of_le (by decide) (Int.le_max_right _ _)
  have hy0 : 0 < y1 := Int.not_le.mp hp
  have g1 := Int.le_trans h0 hx
  have g0 := Int.le_trans hx h1
  refine ⟨?_, Int.le_trans hb.1 hb'.1, ?_, trap_y, fun a b p1 p2 p3 p4 p5 _ _ => ?_⟩
  · exact ha.elim (fun e => e ▸ div_lo h0 hl0) fun ha => ha.elim (fun e => e ▸ div_lo h0 hy0) fun ha => ha.elim (fun e => e ▸ div_lo g1 hl0) fun e => e ▸ div_lo g1 hy0
  · exact ha'.elim (fun e => e ▸ div_hi g0 hl0) fun ha => ha.elim (fun e => e ▸ div_hi g0 hy0) fun ha => ha.elim (fun e => e ▸ div_hi h1 hl0) fun e => e ▸ div_hi h1 hy0
  · have q := div_hull (a := a) hl0 (show l ≤ b from by rw [hl]; exact Int.max_le.mpr ⟨p3, p5⟩) p4
    exact ⟨hull_lo q.2 (.inl (Int.ediv_le_ediv hl0 p1)) (.inl (Int.ediv_le_ediv hy0 p1)) ⟨hb.1, hb.1, hb.2.1, hb.2.1⟩, hull_hi q.1 (.inl (Int.ediv_le_ediv hl0 p2)) (.inl (Int.ediv_le_ediv hy0 p2)) ⟨hb'.2.2.1, hb'.2.2.1, hb'.2.2.2, hb'.2.2.2⟩⟩
theorem deed_no {f : Int → Int → Int} (hy : y0 ≤ y1) (hp : y1 ≤ 0) : DeedJ f (0 < ·) x0 x1 y0 y1 (y0 < 1) (-2147483648) 2147483647 true :=
  ⟨by decide, by decide, by decide, ⟨fun _ => Int.lt_add_one_iff.mpr (Int.le_trans hy hp), fun _ => rfl⟩, fun a b _ _ _ p4 p5 _ _ => absurd p5 (Int.not_lt.mpr (Int.le_trans p4 hp))⟩
theorem deed_div0 (hy : y0 ≤ y1) (hp : y1 ≤ 0) : DeedJ fDiv (0 < ·) x0 x1 y0 y1 (y0 < 1) (-2147483648) 2147483647 true := deed_no hy hp
theorem deed_mod0 (hy : y0 ≤ y1) (hp : y1 ≤ 0) : DeedJ fMod (0 < ·) x0 x1 y0 y1 (y0 < 1) (-2147483648) 2147483647 true := deed_no hy hp
theorem fMod_eq (a b : Int) : fMod a b = a % b := (Int.emod_def a b).symm
theorem deed_mod1 (hx : x0 ≤ x1) (h1 : x1 ≤ 2147483647) (hx0 : 0 ≤ x0) (hl : x1 < max y0 1) : DeedJ fMod (0 < ·) x0 x1 y0 y1 (y0 < 1) x0 x1 (decide (y0 ≤ 0)) := by
  refine ⟨Int.le_trans (by decide) hx0, hx, h1, trap_y, fun a b p1 p2 p3 p4 p5 _ _ => ?_⟩
  rw [fMod_eq, Int.emod_eq_of_lt (Int.le_trans hx0 p1) (Int.lt_of_le_of_lt p2 (Int.lt_of_lt_of_le hl (Int.max_le.mpr ⟨p3, p5⟩)))]
  exact ⟨p1, p2⟩
theorem mod_le {a b : Int} (ha : 0 ≤ a) (hb : 0 < b) : a % b ≤ a := by
  have e := Int.mul_ediv_add_emod a b
  have q := Int.mul_nonneg (Int.le_of_lt hb) (Int.ediv_nonneg ha (Int.le_of_lt hb))
  omega
theorem mod_hi {a b y1 : Int} (p4 : b ≤ y1) (p5 : 0 < b) : a % b ≤ y1 - 1 := Int.le_sub_one_of_lt (Int.lt_of_lt_of_le (Int.emod_lt_of_pos a p5) p4)
theorem deed_mod2 (hx : x0 ≤ x1) (h1 : x1 ≤ 2147483647) (h3 : y1 ≤ 2147483647) (hp : ¬ y1 ≤ 0) (hx0 : 0 ≤ x0) : DeedJ fMod (0 < ·) x0 x1 y0 y1 (y0 < 1) 0 (min (y1 - 1) x1) (decide (y0 ≤ 0)) := by
  refine ⟨by decide, Int.le_min.mpr ⟨Int.le_sub_one_of_lt (Int.not_le.mp hp), Int.le_trans hx0 hx⟩, Int.le_trans (Int.min_le_right _ _) h1, trap_y, fun a b p1 p2 p3 p4 p5 _ _ => ?_⟩
  rw [fMod_eq]
  exact ⟨Int.emod_nonneg a (Int.ne_of_gt p5), Int.le_min.mpr ⟨mod_hi p4 p5, Int.le_trans (mod_le (Int.le_trans hx0 p1) p5) p2⟩⟩
theorem deed_mod3 (h3 : y1 ≤ 2147483647) (hp : ¬ y1 ≤ 0) : DeedJ fMod (0 < ·) x0 x1 y0 y1 (y0 < 1) 0 (y1 - 1) (decide (y0 ≤ 0)) := by
  refine ⟨by decide, Int.le_sub_one_of_lt (Int.not_le.mp hp), Int.le_trans (Int.sub_le_self y1 (by decide)) h3, trap_y, fun a b p1 p2 p3 p4 p5 _ _ => ?_⟩
  rw [fMod_eq]
  exact ⟨Int.emod_nonneg a (Int.ne_of_gt p5), mod_hi p4 p5⟩
end

abbrev iv (a b : Int) : SV := .tup (.int a) (.int b)
abbrev dd (lo hi : Int) (bb : Bool) : SV := .tup (.tup (.int lo) (.int hi)) (.bool bb)
noncomputable def Rg (x0 x1 : Int) : Prop := x0 ≤ x1 ∧ -2147483648 ≤ x0 ∧ x1 ≤ 2147483647
noncomputable def T_full : FnT := fun args K => args = [] ∧ K (iv (-2147483648) 2147483647)
noncomputable def T_clipped : FnT := fun args K => ∃ a b, args = [.int a, .int b] ∧ a ≤ b ∧ ∀ lo hi bb, ClipJ a b lo hi bb → K (dd lo hi bb)
noncomputable def T_two (f : Int → Int → Int) : FnT := fun args K => ∃ x0 x1 y0 y1, args = [iv x0 x1, iv y0 y1] ∧ (Rg x0 x1 ∧ Rg y0 y1) ∧ ∀ lo hi bb, DeedJ f all2 x0 x1 y0 y1 (Trap4 f x0 x1 y0 y1) lo hi bb → K (dd lo hi bb)
noncomputable def T_one (f : Int → Int → Int) : FnT := fun args K => ∃ x0 x1, args = [iv x0 x1] ∧ Rg x0 x1 ∧ ∀ lo hi bb, (∀ y0 y1, DeedJ f all2 x0 x1 y0 y1 (Trap4 f x0 x1 y0 y1) lo hi bb) → K (dd lo hi bb)
noncomputable def T_pos (f : Int → Int → Int) : FnT := fun args K => ∃ x0 x1 y0 y1, args = [iv x0 x1, iv y0 y1] ∧ (Rg x0 x1 ∧ Rg y0 y1) ∧ ∀ lo hi bb, DeedJ f (0 < ·) x0 x1 y0 y1 (y0 < 1) lo hi bb → K (dd lo hi bb)
abbrev T_add : FnT := T_two fAdd
abbrev T_sub : FnT := T_two fSub
abbrev T_mul : FnT := T_two fMul
abbrev T_neg : FnT := T_one fNeg
abbrev T_absolute : FnT := T_one fAbs
abbrev T_div : FnT := T_pos fDiv
abbrev T_mod : FnT := T_pos fMod
noncomputable def T_contains : FnT := fun args K => ∃ x0 x1 n, args = [iv x0 x1, .int n] ∧ K (.bool (decide (x0 ≤ n ∧ n ≤ x1)))
noncomputable def T_within : FnT := fun args K => ∃ x0 x1 y0 y1, args = [iv x0 x1, iv y0 y1] ∧ K (.bool (decide (y0 ≤ x0 ∧ x1 ≤ y1)))
noncomputable def T_join : FnT := fun args K => ∃ x0 x1 y0 y1, args = [iv x0 x1, iv y0 y1] ∧ K (iv (min x0 y0) (max x1 y1))
noncomputable def T_widen : FnT := fun args K => ∃ x0 x1 y0 y1, args = [iv x0 x1, iv y0 y1] ∧ K (iv (if x0 ≤ y0 then x0 else -2147483648) (if y1 ≤ x1 then x1 else 2147483647))
noncomputable def T_meet : FnT := fun args K => ∃ x0 x1 y0 y1, args = [iv x0 x1, iv y0 y1] ∧ (min x1 y1 < max x0 y0 → K .none) ∧ (¬ min x1 y1 < max x0 y0 → K (iv (max x0 y0) (min x1 y1)))
noncomputable def T_below : FnT := fun args K => ∃ x0 x1 y0 y1 g, args = [iv x0 x1, iv y0 y1, .int g] ∧ (Rg x0 x1 ∧ Rg y0 y1 ∧ 0 ≤ g ∧ g ≤ 1) ∧ (¬ x0 + g ≤ y1 → K .none) ∧ (x0 + g ≤ y1 → K (.tup (iv x0 (min x1 (y1 - g))) (iv (max y0 (x0 + g)) y1)))
noncomputable def wo0 (x0 n : Int) : Int := if x0 = n then n + 1 else x0
noncomputable def wo1 (x0 x1 n : Int) : Int := if x0 = n then x1 else if x1 = n then n - 1 else x1
noncomputable def T_without : FnT := fun args K => ∃ x0 x1 n, args = [iv x0 x1, .int n] ∧ (x0 = n ∧ x1 = n → K .none) ∧ (¬ (x0 = n ∧ x1 = n) → K (iv (wo0 x0 n) (wo1 x0 x1 n)))
noncomputable def apK (x0 x1 y0 y1 : Int) (K : SV → Prop) : Prop := (x0 = x1 ∧ y0 = y1 ∧ x0 = y0 → K .none) ∧ (¬ (x0 = x1 ∧ y0 = y1 ∧ x0 = y0) → K (.tup (iv (if y0 = y1 then wo0 x0 y0 else x0) (if y0 = y1 then wo1 x0 x1 y0 else x1)) (iv (if x0 = x1 then wo0 y0 x0 else y0) (if x0 = x1 then wo1 y0 y1 x0 else y1))))
noncomputable def T_apart : FnT := fun args K => ∃ x0 x1 y0 y1, args = [iv x0 x1, iv y0 y1] ∧ (Rg x0 x1 ∧ Rg y0 y1) ∧ apK x0 x1 y0 y1 K
noncomputable def NarJ (rel : Int → Int → Prop) (x0 x1 y0 y1 a0 a1 b0 b1 : Int) : Prop :=
  x0 ≤ a0 ∧ a1 ≤ x1 ∧ y0 ≤ b0 ∧ b1 ≤ y1 ∧ ∀ a b, x0 ≤ a → a ≤ x1 → y0 ≤ b → b ≤ y1 → rel a b → a0 ≤ a ∧ a ≤ a1 ∧ b0 ≤ b ∧ b ≤ b1
noncomputable def rel : Nat → Int → Int → Prop | 0, a, b => a = b | 1, a, b => a ≠ b | 2, a, b => a < b | 3, a, b => a ≤ b | 4, a, b => b < a | _, a, b => b ≤ a
noncomputable def none_ : Nat → Int → Int → Int → Int → Prop
  | 0, x0, x1, y0, y1 => x1 < y0 ∨ y1 < x0 | 1, x0, x1, y0, y1 => x0 = x1 ∧ y0 = y1 ∧ x0 = y0 | 2, x0, _, _, y1 => ¬ x0 < y1 | 3, x0, _, _, y1 => ¬ x0 ≤ y1 | 4, _, x1, y0, _ => ¬ y0 < x1 | _, _, x1, y0, _ => ¬ y0 ≤ x1
noncomputable def naK (op : Nat) (x0 x1 y0 y1 : Int) (K : SV → Prop) : Prop := (none_ op x0 x1 y0 y1 → K .none) ∧ (¬ none_ op x0 x1 y0 y1 → ∀ a0 a1 b0 b1, NarJ (rel op) x0 x1 y0 y1 a0 a1 b0 b1 → K (.tup (iv a0 a1) (iv b0 b1)))
noncomputable def T_narrow : FnT := fun args K => ∃ op x0 x1 y0 y1, args = [.str op, iv x0 x1, iv y0 y1] ∧ (op < 6 ∧ Rg x0 x1 ∧ Rg y0 y1) ∧ (op ≠ 1 → naK op x0 x1 y0 y1 K) ∧ (op = 1 → apK x0 x1 y0 y1 K)
noncomputable def opp : Nat → Nat | 0 => 1 | 1 => 0 | 2 => 5 | 5 => 2 | 4 => 3 | _ => 4
noncomputable def T_opposite : FnT := fun args K => ∃ op, args = [.str op] ∧ op < 6 ∧ K (.str (opp op))
noncomputable def okI (n : Int) : Bool := decide (-2147483648 ≤ n ∧ n ≤ 2147483647)
noncomputable def T_law_ok : FnT := fun args K => ∃ n, args = [.int n] ∧ K (.bool (okI n))
noncomputable def InI (n : Int) : Prop := -2147483648 ≤ n ∧ n ≤ 2147483647
noncomputable def T_law_floor : FnT := fun args K => ∃ a b, args = [.int a, .int b] ∧ (InI a ∧ 0 < b ∧ b ≤ 2147483647) ∧ K (.int (a / b))
noncomputable def resD (a b : Int) : SV := .dcons 6 (.int (fAdd a b)) (.dcons 7 (.int (fSub a b)) (.dcons 8 (.int (fMul a b)) (.dcons 9 (.int (fNeg a b)) (.dcons 10 (.int (fAbs a b)) (if 0 < b then .dcons 11 (.int (fDiv a b)) (.dcons 12 (.int (fMod a b)) .dnil) else .dnil)))))
noncomputable def T_law_results : FnT := fun args K => ∃ a b, args = [.int a, .int b] ∧ (InI a ∧ InI b) ∧ K (.fdct (resD a b))
noncomputable def trB (f : Int → Int → Int) (x0 x1 y0 y1 : Int) : Bool := !okI (f x1 y1) || (!okI (f x1 y0) || (!okI (f x0 y1) || (!okI (f x0 y0) || false)))
noncomputable def T_law_traps : FnT := fun args K => ∃ x0 x1 y0 y1, args = [iv x0 x1, iv y0 y1] ∧ (Rg x0 x1 ∧ Rg y0 y1) ∧ K (.fdct (.dcons 11 (.bool (decide (y0 < 1))) (.dcons 12 (.bool (decide (y0 < 1))) (.dcons 6 (.bool (trB fAdd x0 x1 y0 y1)) (.dcons 7 (.bool (trB fSub x0 x1 y0 y1)) (.dcons 8 (.bool (trB fMul x0 x1 y0 y1)) (.dcons 9 (.bool (trB fNeg x0 x1 y0 y1)) (.dcons 10 (.bool (trB fAbs x0 x1 y0 y1)) .dnil))))))))
noncomputable def Mem4 (x0 x1 : Int) (l : List Int) : Prop := ∀ a ∈ l, x0 ≤ a ∧ a ≤ x1
noncomputable def T_mem : FnT := fun args K => ∃ x0 x1 y0 y1 fs ss, args = [iv x0 x1, iv y0 y1, .ints fs, .ints ss] ∧ (Rg x0 x1 ∧ Rg y0 y1 ∧ Mem4 x0 x1 fs ∧ Mem4 y0 y1 ss ∧ fs.length + ss.length ≤ 64) ∧ K (.bool true)
abbrev T_law_deeds : FnT := T_mem
abbrev T_law_narrowed : FnT := T_mem
abbrev T_law_together : FnT := T_mem
noncomputable def T_law_true : FnT := fun args K => ∃ op a b, args = [.str op, .int a, .int b] ∧ op < 6 ∧ ∀ q : Bool, (q = true ↔ rel op a b) → K (.bool q)
noncomputable def T_law_can : FnT := fun args K => ∃ op x0 x1 y0 y1, args = [.str op, iv x0 x1, iv y0 y1] ∧ op < 6 ∧ ∀ q : Bool, (q = true ↔ ¬ none_ op x0 x1 y0 y1) → K (.bool q)
noncomputable def CT (k : Nat) : FnT := List.getD [T_full, T_clipped, T_add, T_sub, T_mul, T_neg, T_absolute, T_div, T_mod, T_contains, T_within, T_join, T_widen, T_meet, T_below, T_without, T_apart, T_narrow, T_opposite, T_law_ok, T_law_floor, T_law_results, T_law_traps, T_law_deeds, T_law_true, T_law_can, T_law_narrowed, T_law_together] k T_full
theorem ct_0 : CT 0 = T_full := rfl
theorem ct_1 : CT 1 = T_clipped := rfl
theorem ct_2 : CT 2 = T_add := rfl
theorem ct_3 : CT 3 = T_sub := rfl
theorem ct_4 : CT 4 = T_mul := rfl
theorem ct_5 : CT 5 = T_neg := rfl
theorem ct_6 : CT 6 = T_absolute := rfl
theorem ct_7 : CT 7 = T_div := rfl
theorem ct_8 : CT 8 = T_mod := rfl
theorem ct_9 : CT 9 = T_contains := rfl
theorem ct_10 : CT 10 = T_within := rfl
theorem ct_11 : CT 11 = T_join := rfl
theorem ct_12 : CT 12 = T_widen := rfl
theorem ct_13 : CT 13 = T_meet := rfl
theorem ct_14 : CT 14 = T_below := rfl
theorem ct_15 : CT 15 = T_without := rfl
theorem ct_16 : CT 16 = T_apart := rfl
theorem ct_17 : CT 17 = T_narrow := rfl
theorem ct_18 : CT 18 = T_opposite := rfl
theorem ct_19 : CT 19 = T_law_ok := rfl
theorem ct_20 : CT 20 = T_law_floor := rfl
theorem ct_21 : CT 21 = T_law_results := rfl
theorem ct_22 : CT 22 = T_law_traps := rfl
theorem ct_23 : CT 23 = T_law_deeds := rfl
theorem ct_24 : CT 24 = T_law_true := rfl
theorem ct_25 : CT 25 = T_law_can := rfl
theorem ct_26 : CT 26 = T_law_narrowed := rfl
theorem ct_27 : CT 27 = T_law_together := rfl
noncomputable def FS (w : World) (k : Nat) : Prop := ∀ g, g < k → FSpec w (fadr g) (g + 10) (CT g)
theorem fs_succ {w : World} {k : Nat} (h : FS w k) (h' : FSpec w (fadr k) (k + 10) (CT k)) : FS w (k + 1) := fun g hg => by
  rcases Nat.lt_succ_iff_lt_or_eq.mp hg with q | q
  · exact h g q
  · rw [q]; exact h'
theorem tabs (w : World) : Tabs w := tabs_of (by kernel_rfl!) (by kernel_rfl!) (by kernel_rfl!)

theorem lt6 {P : Nat → Prop} (h0 : P 0) (h1 : P 1) (h2 : P 2) (h3 : P 3) (h4 : P 4) (h5 : P 5) {op : Nat} (h : op < 6) : P op := by
  rcases op with _ | _ | _ | _ | _ | _ | op
  · exact h0
  · exact h1
  · exact h2
  · exact h3
  · exact h4
  · exact h5
  · exact absurd h (Nat.not_lt.mpr (Nat.le_add_left 6 op))

theorem filled (w : World) : PySem.Challenge.rw_pb0321_01.row.prog = PRG ∧ hd.heap_39 w.params = hd.heap_39 w.params := by
  k_fill
  exact ⟨rfl, rfl⟩

theorem kb {K : SV → Prop} {p q : Bool} (h : K (.bool p)) (e : p = q) : K (.bool q) := e ▸ h
theorem ki {K : SV → Prop} {a b c d : Int} (h : K (iv a b)) (e : a = c) (f : b = d) : K (.tup (.int c) (.int d)) := by rw [← e, ← f]; exact h
theorem kd {K : SV → Prop} {a b c d : Int} {p q : Bool} (h : K (dd a b p)) (e : a = c) (f : b = d) (g : p = q) : K (.tup (.tup (.int c) (.int d)) (.bool q)) := by rw [← e, ← f, ← g]; exact h
theorem dec_t {P : Prop} {i : Decidable P} (h : P) : @decide P i = true := decide_eq_true h
theorem dec_f {P : Prop} {i : Decidable P} (h : ¬ P) : @decide P i = false := decide_eq_false h
theorem dec_e {P Q : Prop} {i : Decidable P} {j : Decidable Q} (h : P ↔ Q) : @decide P i = @decide Q j := by
  by_cases q : Q
  · rw [decide_eq_true q, decide_eq_true (h.mpr q)]
  · rw [decide_eq_false q, decide_eq_false fun p => q (h.mp p)]
theorem clip_ok {a b : Int} {bb : Bool} (h : ¬ min b 2147483647 < max a (-2147483648)) (hb : bb = decide (a < -2147483648 ∨ 2147483647 < b)) : ClipJ a b (max a (-2147483648)) (min b 2147483647) bb :=
  ⟨Int.le_max_right _ _, Int.not_lt.mp h, Int.min_le_right _ _, hb, fun v h1 h2 h3 h4 => ⟨Int.max_le.mpr ⟨h1, h3⟩, Int.le_min.mpr ⟨h2, h4⟩⟩⟩
theorem clip_no {a b : Int} (hab : a ≤ b) (h : min b 2147483647 < max a (-2147483648)) : ClipJ a b (-2147483648) 2147483647 true :=
  ⟨by decide, by decide, by decide, (decide_eq_true (Decidable.byContradiction fun k => absurd h (Int.not_lt.mpr (by rw [Int.max_eq_left (Int.not_lt.mp fun e => k (.inl e)), Int.min_eq_left (Int.not_lt.mp fun e => k (.inr e))]; exact hab)))).symm, fun v _ _ h3 h4 => ⟨h3, h4⟩⟩
theorem v_full : ∀ (args : List SV) (K : SV → Prop), T_full args K → args.length = 0 ∧ wpS CT ir_full (args ++ undefs 0) (fun _ => K .none) K (fun _ => False) := by
  rintro args K ⟨rfl, h⟩
  exact ⟨rfl, h⟩
theorem f_full (w : World) (h : FS w 0) : FS w 1 := fs_succ h (show FSpec w 21 (0 + 10) T_full from by
  refine' fspec_of (n := 0) ns_full 0 0 ir_full (tabs w) (by decide) (by decide) h ?ho ?hcd ?hb ?hsc ?hco ?hgen ?hk ?hc ?hT
  case ho => k_is
  case hcd => k_is
  case hb =>
    intro vs hv
    obtain ⟨_, rfl⟩ := len0 hv
    exact rfl
  case hsc => kernel_rfl!
  case hco => rfl
  case hgen => rfl
  case hk => rfl
  case hc => kernel_rfl!
  case hT => exact v_full)
theorem v_clipped : ∀ (args : List SV) (K : SV → Prop), T_clipped args K → args.length = 2 ∧ wpS CT ir_clipped (args ++ undefs 1) (fun _ => K .none) K (fun _ => False) := by
  rintro args K ⟨a, b, rfl, hab, h⟩
  refine ⟨rfl, ?_⟩
  dsimp only [ir_clipped, q_onB, q_onI, q_onS, q_onF, q_onL, q_onD, q_onT, q_onZ, q_onU_none, q_onU_bool, q_onU_int, q_onU_str, q_onU_tup, q_onU_ints, q_onU_strs, q_onU_fdct, q_un_neg, q_un_not, q_un_it0, q_un_it1, q_un_abs, q_un_mxL, q_un_mnL, q_un_one, q_bi_sub, q_bi_mul, q_bi_fdiv, q_bi_mod, q_bi_add, q_bi_lt, q_bi_le, q_bi_gt, q_bi_ge, q_bi_eq, q_bi_ne, q_bi_mx, q_bi_mn, q_cat, q_eq_s, q_eq_b, q_eq_n, q_eq_t, q_ne_s, q_ne_b, q_ne_n, q_ne_t, q_is_n, q_is_t, q_isnot_n, q_isnot_t, q_eqD_i, q_eqD_t, q_froz_n, q_froz_c, q_frz_none, q_frz_bool, q_frz_int, q_frz_str, q_frz_tup, q_frz_ints, q_frz_strs, q_frz_fdct, q_frz_undef, q_frz_dct, q_look_z, q_look_s, q_upd_z, q_upd_s, q_und_z, q_und_s, q_app_n, q_app_c, q_mkL, q_gI_n, q_gI_i, q_gI_s, q_gS_n, q_gS_i, q_toL_n, q_toL_c, q_dget, q_dset_c, q_dset_n, q_cond_t, q_cond_f, q_for_n, q_for_c, q_allI_i, q_allI_s, q_allI_f, q_allN_n, q_allN_c, q_allK_n, q_allK_c, q_it_t, q_it_s, q_unr_n, q_unr_c, q_isD_none, q_isD_bool, q_isD_int, q_isD_str, q_isD_tup, q_isD_ints, q_isD_strs, q_isD_fdct, q_isD_undef, q_isD_dct, q_hasD_n, q_hasD_c, q_flat_none, q_flat_bool, q_flat_int, q_flat_str, q_flat_ints, q_flat_strs, q_flat_tup, q_flat_fdct, q_flat_dnil, q_flat_dcons, q_tor, q_for_b, q_tand, q_fand, q_nt, q_nf, u_done, u_set, u_set2, u_setD, u_setK, u_ifk, u_freeze, u_ret, u_cont, u_ifr, u_forr, u_ford, w_var, w_lit, w_un, w_bi, w_key, w_bo, w_ite, w_tup, w_call, w_lst, w_dict, w_anil, w_acons, ct_0, ct_1, ct_2, ct_3, ct_4, ct_5, ct_6, ct_7, ct_8, ct_9, ct_10, ct_11, ct_12, ct_13, ct_14, ct_15, ct_16, ct_17, ct_18, ct_19, ct_20, ct_21, ct_22, ct_23, ct_24, ct_25, ct_26, ct_27, Nat.reduceBEq, Nat.reduceAdd, List.map, List.contains, List.elem]
  simp only [eq_self, true_and, and_true, decide_eq_true_eq, decide_eq_false_iff_not, Bool.not_true, Bool.not_false, forall_const, reduceCtorEq, false_implies, implies_true]
  exact ⟨fun h1 => ⟨fun h2 => ⟨rfl, h _ _ _ (clip_no hab h2)⟩, fun h2 => h _ _ _ (clip_ok h2 (dec_e (or_iff_right h1).symm))⟩, fun h1 => ⟨fun h2 => ⟨rfl, h _ _ _ (clip_no hab h2)⟩, fun h2 => h _ _ _ (clip_ok h2 (dec_t (.inl h1)).symm)⟩⟩
theorem f_clipped (w : World) (h : FS w 1) : FS w 2 := fs_succ h (show FSpec w 28 (1 + 10) T_clipped from by
  refine' fspec_of (n := 1) ns_clipped 2 1 ir_clipped (tabs w) (by decide) (by decide) h ?ho ?hcd ?hb ?hsc ?hco ?hgen ?hk ?hc ?hT
  case ho => k_is
  case hcd => k_is
  case hb =>
    intro vs hv
    obtain ⟨a0, a1, rfl⟩ := len2 hv
    exact rfl
  case hsc => kernel_rfl!
  case hco => rfl
  case hgen => rfl
  case hk => rfl
  case hc => kernel_rfl!
  case hT => exact v_clipped)
theorem v_add : ∀ (args : List SV) (K : SV → Prop), T_add args K → args.length = 2 ∧ wpS CT ir_add (args ++ undefs 0) (fun _ => K .none) K (fun _ => False) := by
  rintro args K ⟨x0, x1, y0, y1, rfl, ⟨⟨hx, h0, h1⟩, hy, h2, h3⟩, h⟩
  exact ⟨rfl, _, _, rfl, Int.add_le_add hx hy, fun lo hi bb J => h _ _ _ (deed_add hx hy J)⟩
theorem f_add (w : World) (h : FS w 2) : FS w 3 := fs_succ h (show FSpec w 35 (2 + 10) T_add from by
  refine' fspec_of (n := 2) ns_add 2 0 ir_add (tabs w) (by decide) (by decide) h ?ho ?hcd ?hb ?hsc ?hco ?hgen ?hk ?hc ?hT
  case ho => k_is
  case hcd => k_is
  case hb =>
    intro vs hv
    obtain ⟨a0, a1, rfl⟩ := len2 hv
    exact rfl
  case hsc => kernel_rfl!
  case hco => rfl
  case hgen => rfl
  case hk => rfl
  case hc => kernel_rfl!
  case hT => exact v_add)
theorem v_sub : ∀ (args : List SV) (K : SV → Prop), T_sub args K → args.length = 2 ∧ wpS CT ir_sub (args ++ undefs 0) (fun _ => K .none) K (fun _ => False) := by
  rintro args K ⟨x0, x1, y0, y1, rfl, ⟨⟨hx, h0, h1⟩, hy, h2, h3⟩, h⟩
  exact ⟨rfl, _, _, rfl, Int.sub_le_sub hx hy, fun lo hi bb J => h _ _ _ (deed_sub hx hy J)⟩
theorem f_sub (w : World) (h : FS w 3) : FS w 4 := fs_succ h (show FSpec w 42 (3 + 10) T_sub from by
  refine' fspec_of (n := 3) ns_sub 2 0 ir_sub (tabs w) (by decide) (by decide) h ?ho ?hcd ?hb ?hsc ?hco ?hgen ?hk ?hc ?hT
  case ho => k_is
  case hcd => k_is
  case hb =>
    intro vs hv
    obtain ⟨a0, a1, rfl⟩ := len2 hv
    exact rfl
  case hsc => kernel_rfl!
  case hco => rfl
  case hgen => rfl
  case hk => rfl
  case hc => kernel_rfl!
  case hT => exact v_sub)
theorem mem4 {M a b c d : Int} (h : M ∈ [a, b, c, d]) : M = a ∨ M = b ∨ M = c ∨ M = d := (List.mem_cons.mp h).imp_right fun h => (List.mem_cons.mp h).imp_right fun h => (List.mem_cons.mp h).imp_right List.mem_singleton.mp
theorem all4 {P : Int → Prop} {a b c d : Int} (h : ∀ x ∈ [a, b, c, d], P x) : P a ∧ P b ∧ P c ∧ P d :=
  ⟨h a (.head _), h b (.tail _ (.head _)), h c (.tail _ (.tail _ (.head _))), h d (.tail _ (.tail _ (.tail _ (.head _))))⟩
theorem nab {x : Int} (h0 : -2147483648 ≤ x) (h1 : x ≤ 2147483647) : x.natAbs < 1099511627776 := by omega
theorem v_mul : ∀ (args : List SV) (K : SV → Prop), T_mul args K → args.length = 2 ∧ wpS CT ir_mul (args ++ undefs 1) (fun _ => K .none) K (fun _ => False) := by
  rintro args K ⟨x0, x1, y0, y1, rfl, ⟨⟨hx, h0, h1⟩, hy, h2, h3⟩, h⟩
  refine ⟨rfl, ?_⟩
  dsimp only [ir_mul, q_onB, q_onI, q_onS, q_onF, q_onL, q_onD, q_onT, q_onZ, q_onU_none, q_onU_bool, q_onU_int, q_onU_str, q_onU_tup, q_onU_ints, q_onU_strs, q_onU_fdct, q_un_neg, q_un_not, q_un_it0, q_un_it1, q_un_abs, q_un_mxL, q_un_mnL, q_un_one, q_bi_sub, q_bi_mul, q_bi_fdiv, q_bi_mod, q_bi_add, q_bi_lt, q_bi_le, q_bi_gt, q_bi_ge, q_bi_eq, q_bi_ne, q_bi_mx, q_bi_mn, q_cat, q_eq_s, q_eq_b, q_eq_n, q_eq_t, q_ne_s, q_ne_b, q_ne_n, q_ne_t, q_is_n, q_is_t, q_isnot_n, q_isnot_t, q_eqD_i, q_eqD_t, q_froz_n, q_froz_c, q_frz_none, q_frz_bool, q_frz_int, q_frz_str, q_frz_tup, q_frz_ints, q_frz_strs, q_frz_fdct, q_frz_undef, q_frz_dct, q_look_z, q_look_s, q_upd_z, q_upd_s, q_und_z, q_und_s, q_app_n, q_app_c, q_mkL, q_gI_n, q_gI_i, q_gI_s, q_gS_n, q_gS_i, q_toL_n, q_toL_c, q_dget, q_dset_c, q_dset_n, q_cond_t, q_cond_f, q_for_n, q_for_c, q_allI_i, q_allI_s, q_allI_f, q_allN_n, q_allN_c, q_allK_n, q_allK_c, q_it_t, q_it_s, q_unr_n, q_unr_c, q_isD_none, q_isD_bool, q_isD_int, q_isD_str, q_isD_tup, q_isD_ints, q_isD_strs, q_isD_fdct, q_isD_undef, q_isD_dct, q_hasD_n, q_hasD_c, q_flat_none, q_flat_bool, q_flat_int, q_flat_str, q_flat_ints, q_flat_strs, q_flat_tup, q_flat_fdct, q_flat_dnil, q_flat_dcons, q_tor, q_for_b, q_tand, q_fand, q_nt, q_nf, u_done, u_set, u_set2, u_setD, u_setK, u_ifk, u_freeze, u_ret, u_cont, u_ifr, u_forr, u_ford, w_var, w_lit, w_un, w_bi, w_key, w_bo, w_ite, w_tup, w_call, w_lst, w_dict, w_anil, w_acons, ct_0, ct_1, ct_2, ct_3, ct_4, ct_5, ct_6, ct_7, ct_8, ct_9, ct_10, ct_11, ct_12, ct_13, ct_14, ct_15, ct_16, ct_17, ct_18, ct_19, ct_20, ct_21, ct_22, ct_23, ct_24, ct_25, ct_26, ct_27, Nat.reduceBEq, Nat.reduceAdd, List.map, List.contains, List.elem]
  have n0 := nab h0 (Int.le_trans hx h1)
  have n1 := nab (Int.le_trans h0 hx) h1
  have n2 := nab h2 (Int.le_trans hy h3)
  have n3 := nab (Int.le_trans h2 hy) h3
  refine ⟨⟨n0, n2⟩, ⟨n0, n3⟩, ⟨n1, n2⟩, ⟨n1, n3⟩, rfl, Nat.succ_pos _, fun M hM ha => ⟨Nat.succ_pos _, fun M' hM' ha' => ⟨_, _, rfl, ha M' hM', fun lo hi bb J => h _ _ _ (deed_mul hx hy J (mem4 hM) (all4 ha) (mem4 hM') (all4 ha'))⟩⟩⟩
theorem f_mul (w : World) (h : FS w 4) : FS w 5 := fs_succ h (show FSpec w 49 (4 + 10) T_mul from by
  refine' fspec_of (n := 4) ns_mul 2 1 ir_mul (tabs w) (by decide) (by decide) h ?ho ?hcd ?hb ?hsc ?hco ?hgen ?hk ?hc ?hT
  case ho => k_is
  case hcd => k_is
  case hb =>
    intro vs hv
    obtain ⟨a0, a1, rfl⟩ := len2 hv
    exact rfl
  case hsc => kernel_rfl!
  case hco => rfl
  case hgen => rfl
  case hk => rfl
  case hc => kernel_rfl!
  case hT => exact v_mul)
theorem v_neg : ∀ (args : List SV) (K : SV → Prop), T_neg args K → args.length = 1 ∧ wpS CT ir_neg (args ++ undefs 0) (fun _ => K .none) K (fun _ => False) := by
  rintro args K ⟨x0, x1, rfl, ⟨hx, h0, h1⟩, h⟩
  exact ⟨rfl, _, _, rfl, Int.sub_le_sub_left hx 0, fun lo hi bb J => h _ _ _ fun y0 y1 => deed_neg hx J⟩
theorem f_neg (w : World) (h : FS w 5) : FS w 6 := fs_succ h (show FSpec w 56 (5 + 10) T_neg from by
  refine' fspec_of (n := 5) ns_neg 1 0 ir_neg (tabs w) (by decide) (by decide) h ?ho ?hcd ?hb ?hsc ?hco ?hgen ?hk ?hc ?hT
  case ho => k_is
  case hcd => k_is
  case hb =>
    intro vs hv
    obtain ⟨a0, rfl⟩ := len1 hv
    exact rfl
  case hsc => kernel_rfl!
  case hco => rfl
  case hgen => rfl
  case hk => rfl
  case hc => kernel_rfl!
  case hT => exact v_neg)
theorem v_absolute : ∀ (args : List SV) (K : SV → Prop), T_absolute args K → args.length = 1 ∧ wpS CT ir_absolute (args ++ undefs 0) (fun _ => K .none) K (fun _ => False) := by
  rintro args K ⟨x0, x1, rfl, ⟨hx, h0, h1⟩, h⟩
  refine ⟨rfl, ?_⟩
  dsimp only [ir_absolute, q_onB, q_onI, q_onS, q_onF, q_onL, q_onD, q_onT, q_onZ, q_onU_none, q_onU_bool, q_onU_int, q_onU_str, q_onU_tup, q_onU_ints, q_onU_strs, q_onU_fdct, q_un_neg, q_un_not, q_un_it0, q_un_it1, q_un_abs, q_un_mxL, q_un_mnL, q_un_one, q_bi_sub, q_bi_mul, q_bi_fdiv, q_bi_mod, q_bi_add, q_bi_lt, q_bi_le, q_bi_gt, q_bi_ge, q_bi_eq, q_bi_ne, q_bi_mx, q_bi_mn, q_cat, q_eq_s, q_eq_b, q_eq_n, q_eq_t, q_ne_s, q_ne_b, q_ne_n, q_ne_t, q_is_n, q_is_t, q_isnot_n, q_isnot_t, q_eqD_i, q_eqD_t, q_froz_n, q_froz_c, q_frz_none, q_frz_bool, q_frz_int, q_frz_str, q_frz_tup, q_frz_ints, q_frz_strs, q_frz_fdct, q_frz_undef, q_frz_dct, q_look_z, q_look_s, q_upd_z, q_upd_s, q_und_z, q_und_s, q_app_n, q_app_c, q_mkL, q_gI_n, q_gI_i, q_gI_s, q_gS_n, q_gS_i, q_toL_n, q_toL_c, q_dget, q_dset_c, q_dset_n, q_cond_t, q_cond_f, q_for_n, q_for_c, q_allI_i, q_allI_s, q_allI_f, q_allN_n, q_allN_c, q_allK_n, q_allK_c, q_it_t, q_it_s, q_unr_n, q_unr_c, q_isD_none, q_isD_bool, q_isD_int, q_isD_str, q_isD_tup, q_isD_ints, q_isD_strs, q_isD_fdct, q_isD_undef, q_isD_dct, q_hasD_n, q_hasD_c, q_flat_none, q_flat_bool, q_flat_int, q_flat_str, q_flat_ints, q_flat_strs, q_flat_tup, q_flat_fdct, q_flat_dnil, q_flat_dcons, q_tor, q_for_b, q_tand, q_fand, q_nt, q_nf, u_done, u_set, u_set2, u_setD, u_setK, u_ifk, u_freeze, u_ret, u_cont, u_ifr, u_forr, u_ford, w_var, w_lit, w_un, w_bi, w_key, w_bo, w_ite, w_tup, w_call, w_lst, w_dict, w_anil, w_acons, ct_0, ct_1, ct_2, ct_3, ct_4, ct_5, ct_6, ct_7, ct_8, ct_9, ct_10, ct_11, ct_12, ct_13, ct_14, ct_15, ct_16, ct_17, ct_18, ct_19, ct_20, ct_21, ct_22, ct_23, ct_24, ct_25, ct_26, ct_27, Nat.reduceBEq, Nat.reduceAdd, List.map, List.contains, List.elem]
  simp only [eq_self, true_and, and_true, decide_eq_true_eq, decide_eq_false_iff_not, Bool.not_true, Bool.not_false, forall_const, reduceCtorEq, false_implies, implies_true]
  refine ⟨fun p => h _ _ _ fun y0 y1 => deed_abs1 hx h1 p, fun p => ⟨fun q => ⟨_, _, rfl, ⟨hx, h0, h1⟩, fun lo hi bb J => h _ _ _ fun y0 y1 => deed_abs2 hx q (J y0 y1)⟩, fun q => ⟨_, _, rfl, Int.le_trans (Int.le_of_lt (Int.not_le.mp q)) (Int.le_max_right _ _), fun lo hi bb J => h _ _ _ fun y0 y1 => deed_abs3 p q J⟩⟩⟩
theorem f_absolute (w : World) (h : FS w 6) : FS w 7 := fs_succ h (show FSpec w 63 (6 + 10) T_absolute from by
  refine' fspec_of (n := 6) ns_absolute 1 0 ir_absolute (tabs w) (by decide) (by decide) h ?ho ?hcd ?hb ?hsc ?hco ?hgen ?hk ?hc ?hT
  case ho => k_is
  case hcd => k_is
  case hb =>
    intro vs hv
    obtain ⟨a0, rfl⟩ := len1 hv
    exact rfl
  case hsc => kernel_rfl!
  case hco => rfl
  case hgen => rfl
  case hk => rfl
  case hc => kernel_rfl!
  case hT => exact v_absolute)
theorem v_div : ∀ (args : List SV) (K : SV → Prop), T_div args K → args.length = 2 ∧ wpS CT ir_div (args ++ undefs 3) (fun _ => K .none) K (fun _ => False) := by
  rintro args K ⟨x0, x1, y0, y1, rfl, ⟨⟨hx, h0, h1⟩, hy, h2, h3⟩, h⟩
  refine ⟨rfl, ?_⟩
  dsimp only [ir_div, q_onB, q_onI, q_onS, q_onF, q_onL, q_onD, q_onT, q_onZ, q_onU_none, q_onU_bool, q_onU_int, q_onU_str, q_onU_tup, q_onU_ints, q_onU_strs, q_onU_fdct, q_un_neg, q_un_not, q_un_it0, q_un_it1, q_un_abs, q_un_mxL, q_un_mnL, q_un_one, q_bi_sub, q_bi_mul, q_bi_fdiv, q_bi_mod, q_bi_add, q_bi_lt, q_bi_le, q_bi_gt, q_bi_ge, q_bi_eq, q_bi_ne, q_bi_mx, q_bi_mn, q_cat, q_eq_s, q_eq_b, q_eq_n, q_eq_t, q_ne_s, q_ne_b, q_ne_n, q_ne_t, q_is_n, q_is_t, q_isnot_n, q_isnot_t, q_eqD_i, q_eqD_t, q_froz_n, q_froz_c, q_frz_none, q_frz_bool, q_frz_int, q_frz_str, q_frz_tup, q_frz_ints, q_frz_strs, q_frz_fdct, q_frz_undef, q_frz_dct, q_look_z, q_look_s, q_upd_z, q_upd_s, q_und_z, q_und_s, q_app_n, q_app_c, q_mkL, q_gI_n, q_gI_i, q_gI_s, q_gS_n, q_gS_i, q_toL_n, q_toL_c, q_dget, q_dset_c, q_dset_n, q_cond_t, q_cond_f, q_for_n, q_for_c, q_allI_i, q_allI_s, q_allI_f, q_allN_n, q_allN_c, q_allK_n, q_allK_c, q_it_t, q_it_s, q_unr_n, q_unr_c, q_isD_none, q_isD_bool, q_isD_int, q_isD_str, q_isD_tup, q_isD_ints, q_isD_strs, q_isD_fdct, q_isD_undef, q_isD_dct, q_hasD_n, q_hasD_c, q_flat_none, q_flat_bool, q_flat_int, q_flat_str, q_flat_ints, q_flat_strs, q_flat_tup, q_flat_fdct, q_flat_dnil, q_flat_dcons, q_tor, q_for_b, q_tand, q_fand, q_nt, q_nf, u_done, u_set, u_set2, u_setD, u_setK, u_ifk, u_freeze, u_ret, u_cont, u_ifr, u_forr, u_ford, w_var, w_lit, w_un, w_bi, w_key, w_bo, w_ite, w_tup, w_call, w_lst, w_dict, w_anil, w_acons, ct_0, ct_1, ct_2, ct_3, ct_4, ct_5, ct_6, ct_7, ct_8, ct_9, ct_10, ct_11, ct_12, ct_13, ct_14, ct_15, ct_16, ct_17, ct_18, ct_19, ct_20, ct_21, ct_22, ct_23, ct_24, ct_25, ct_26, ct_27, Nat.reduceBEq, Nat.reduceAdd, List.map, List.contains, List.elem]
  simp only [eq_self, true_and, and_true, decide_eq_true_eq, decide_eq_false_iff_not, Bool.not_true, Bool.not_false, forall_const, reduceCtorEq, false_implies, implies_true]
  have b1 : ∀ {v : Int}, v ≤ 2147483647 → v < 1099511627776 := fun h => Int.lt_of_le_of_lt h (by decide)
  have bl : 0 < max y0 1 ∧ max y0 1 < 1099511627776 := ⟨Int.lt_of_lt_of_le (by decide) (Int.le_max_right _ _), b1 (Int.max_le.mpr ⟨Int.le_trans hy h3, by decide⟩)⟩
  exact ⟨fun p => ⟨rfl, h _ _ _ (deed_div0 hy p)⟩, fun p => ⟨bl, ⟨Int.not_le.mp p, b1 h3⟩, bl, ⟨Int.not_le.mp p, b1 h3⟩, Nat.succ_pos _, fun M hM ha => ⟨Nat.succ_pos _, fun M' hM' ha' => h _ _ _ (deed_divL rfl hx hy h0 h1 p (mem4 hM) (all4 ha) (mem4 hM') (all4 ha'))⟩⟩⟩
theorem f_div (w : World) (h : FS w 7) : FS w 8 := fs_succ h (show FSpec w 70 (7 + 10) T_div from by
  refine' fspec_of (n := 7) ns_div 2 3 ir_div (tabs w) (by decide) (by decide) h ?ho ?hcd ?hb ?hsc ?hco ?hgen ?hk ?hc ?hT
  case ho => k_is
  case hcd => k_is
  case hb =>
    intro vs hv
    obtain ⟨a0, a1, rfl⟩ := len2 hv
    exact rfl
  case hsc => kernel_rfl!
  case hco => rfl
  case hgen => rfl
  case hk => rfl
  case hc => kernel_rfl!
  case hT => exact v_div)
theorem v_mod : ∀ (args : List SV) (K : SV → Prop), T_mod args K → args.length = 2 ∧ wpS CT ir_mod (args ++ undefs 2) (fun _ => K .none) K (fun _ => False) := by
  rintro args K ⟨x0, x1, y0, y1, rfl, ⟨⟨hx, h0, h1⟩, hy, h2, h3⟩, h⟩
  refine ⟨rfl, ?_⟩
  dsimp only [ir_mod, q_onB, q_onI, q_onS, q_onF, q_onL, q_onD, q_onT, q_onZ, q_onU_none, q_onU_bool, q_onU_int, q_onU_str, q_onU_tup, q_onU_ints, q_onU_strs, q_onU_fdct, q_un_neg, q_un_not, q_un_it0, q_un_it1, q_un_abs, q_un_mxL, q_un_mnL, q_un_one, q_bi_sub, q_bi_mul, q_bi_fdiv, q_bi_mod, q_bi_add, q_bi_lt, q_bi_le, q_bi_gt, q_bi_ge, q_bi_eq, q_bi_ne, q_bi_mx, q_bi_mn, q_cat, q_eq_s, q_eq_b, q_eq_n, q_eq_t, q_ne_s, q_ne_b, q_ne_n, q_ne_t, q_is_n, q_is_t, q_isnot_n, q_isnot_t, q_eqD_i, q_eqD_t, q_froz_n, q_froz_c, q_frz_none, q_frz_bool, q_frz_int, q_frz_str, q_frz_tup, q_frz_ints, q_frz_strs, q_frz_fdct, q_frz_undef, q_frz_dct, q_look_z, q_look_s, q_upd_z, q_upd_s, q_und_z, q_und_s, q_app_n, q_app_c, q_mkL, q_gI_n, q_gI_i, q_gI_s, q_gS_n, q_gS_i, q_toL_n, q_toL_c, q_dget, q_dset_c, q_dset_n, q_cond_t, q_cond_f, q_for_n, q_for_c, q_allI_i, q_allI_s, q_allI_f, q_allN_n, q_allN_c, q_allK_n, q_allK_c, q_it_t, q_it_s, q_unr_n, q_unr_c, q_isD_none, q_isD_bool, q_isD_int, q_isD_str, q_isD_tup, q_isD_ints, q_isD_strs, q_isD_fdct, q_isD_undef, q_isD_dct, q_hasD_n, q_hasD_c, q_flat_none, q_flat_bool, q_flat_int, q_flat_str, q_flat_ints, q_flat_strs, q_flat_tup, q_flat_fdct, q_flat_dnil, q_flat_dcons, q_tor, q_for_b, q_tand, q_fand, q_nt, q_nf, u_done, u_set, u_set2, u_setD, u_setK, u_ifk, u_freeze, u_ret, u_cont, u_ifr, u_forr, u_ford, w_var, w_lit, w_un, w_bi, w_key, w_bo, w_ite, w_tup, w_call, w_lst, w_dict, w_anil, w_acons, ct_0, ct_1, ct_2, ct_3, ct_4, ct_5, ct_6, ct_7, ct_8, ct_9, ct_10, ct_11, ct_12, ct_13, ct_14, ct_15, ct_16, ct_17, ct_18, ct_19, ct_20, ct_21, ct_22, ct_23, ct_24, ct_25, ct_26, ct_27, Nat.reduceBEq, Nat.reduceAdd, List.map, List.contains, List.elem]
  simp only [eq_self, true_and, and_true, decide_eq_true_eq, decide_eq_false_iff_not, Bool.not_true, Bool.not_false, forall_const, reduceCtorEq, false_implies, implies_true]
  exact ⟨fun p => ⟨rfl, h _ _ _ (deed_mod0 hy p)⟩, fun p => ⟨fun q => ⟨fun r => h _ _ _ (deed_mod1 hx h1 q r), fun _ => ⟨fun r => h _ _ _ (deed_mod2 hx h1 h3 p r), fun r => h _ _ _ (deed_mod3 h3 p)⟩⟩, fun _ => ⟨fun r => h _ _ _ (deed_mod2 hx h1 h3 p r), fun r => h _ _ _ (deed_mod3 h3 p)⟩⟩⟩
theorem f_mod (w : World) (h : FS w 8) : FS w 9 := fs_succ h (show FSpec w 77 (8 + 10) T_mod from by
  refine' fspec_of (n := 8) ns_mod 2 2 ir_mod (tabs w) (by decide) (by decide) h ?ho ?hcd ?hb ?hsc ?hco ?hgen ?hk ?hc ?hT
  case ho => k_is
  case hcd => k_is
  case hb =>
    intro vs hv
    obtain ⟨a0, a1, rfl⟩ := len2 hv
    exact rfl
  case hsc => kernel_rfl!
  case hco => rfl
  case hgen => rfl
  case hk => rfl
  case hc => kernel_rfl!
  case hT => exact v_mod)
theorem v_contains : ∀ (args : List SV) (K : SV → Prop), T_contains args K → args.length = 2 ∧ wpS CT ir_contains (args ++ undefs 0) (fun _ => K .none) K (fun _ => False) := by
  rintro args K ⟨x0, x1, n, rfl, h⟩
  refine ⟨rfl, ?_⟩
  dsimp only [ir_contains, q_onB, q_onI, q_onS, q_onF, q_onL, q_onD, q_onT, q_onZ, q_onU_none, q_onU_bool, q_onU_int, q_onU_str, q_onU_tup, q_onU_ints, q_onU_strs, q_onU_fdct, q_un_neg, q_un_not, q_un_it0, q_un_it1, q_un_abs, q_un_mxL, q_un_mnL, q_un_one, q_bi_sub, q_bi_mul, q_bi_fdiv, q_bi_mod, q_bi_add, q_bi_lt, q_bi_le, q_bi_gt, q_bi_ge, q_bi_eq, q_bi_ne, q_bi_mx, q_bi_mn, q_cat, q_eq_s, q_eq_b, q_eq_n, q_eq_t, q_ne_s, q_ne_b, q_ne_n, q_ne_t, q_is_n, q_is_t, q_isnot_n, q_isnot_t, q_eqD_i, q_eqD_t, q_froz_n, q_froz_c, q_frz_none, q_frz_bool, q_frz_int, q_frz_str, q_frz_tup, q_frz_ints, q_frz_strs, q_frz_fdct, q_frz_undef, q_frz_dct, q_look_z, q_look_s, q_upd_z, q_upd_s, q_und_z, q_und_s, q_app_n, q_app_c, q_mkL, q_gI_n, q_gI_i, q_gI_s, q_gS_n, q_gS_i, q_toL_n, q_toL_c, q_dget, q_dset_c, q_dset_n, q_cond_t, q_cond_f, q_for_n, q_for_c, q_allI_i, q_allI_s, q_allI_f, q_allN_n, q_allN_c, q_allK_n, q_allK_c, q_it_t, q_it_s, q_unr_n, q_unr_c, q_isD_none, q_isD_bool, q_isD_int, q_isD_str, q_isD_tup, q_isD_ints, q_isD_strs, q_isD_fdct, q_isD_undef, q_isD_dct, q_hasD_n, q_hasD_c, q_flat_none, q_flat_bool, q_flat_int, q_flat_str, q_flat_ints, q_flat_strs, q_flat_tup, q_flat_fdct, q_flat_dnil, q_flat_dcons, q_tor, q_for_b, q_tand, q_fand, q_nt, q_nf, u_done, u_set, u_set2, u_setD, u_setK, u_ifk, u_freeze, u_ret, u_cont, u_ifr, u_forr, u_ford, w_var, w_lit, w_un, w_bi, w_key, w_bo, w_ite, w_tup, w_call, w_lst, w_dict, w_anil, w_acons, ct_0, ct_1, ct_2, ct_3, ct_4, ct_5, ct_6, ct_7, ct_8, ct_9, ct_10, ct_11, ct_12, ct_13, ct_14, ct_15, ct_16, ct_17, ct_18, ct_19, ct_20, ct_21, ct_22, ct_23, ct_24, ct_25, ct_26, ct_27, Nat.reduceBEq, Nat.reduceAdd, List.map, List.contains, List.elem]
  simp only [eq_self, true_and, and_true, decide_eq_true_eq, decide_eq_false_iff_not, Bool.not_true, Bool.not_false, forall_const, reduceCtorEq, false_implies, implies_true]
  exact ⟨fun p => kb h (dec_e (and_iff_right p)), fun p => kb h (dec_f fun e => p e.1)⟩
theorem f_contains (w : World) (h : FS w 9) : FS w 10 := fs_succ h (show FSpec w 84 (9 + 10) T_contains from by
  refine' fspec_of (n := 9) ns_contains 2 0 ir_contains (tabs w) (by decide) (by decide) h ?ho ?hcd ?hb ?hsc ?hco ?hgen ?hk ?hc ?hT
  case ho => k_is
  case hcd => k_is
  case hb =>
    intro vs hv
    obtain ⟨a0, a1, rfl⟩ := len2 hv
    exact rfl
  case hsc => kernel_rfl!
  case hco => rfl
  case hgen => rfl
  case hk => rfl
  case hc => kernel_rfl!
  case hT => exact v_contains)
theorem v_within : ∀ (args : List SV) (K : SV → Prop), T_within args K → args.length = 2 ∧ wpS CT ir_within (args ++ undefs 0) (fun _ => K .none) K (fun _ => False) := by
  rintro args K ⟨x0, x1, y0, y1, rfl, h⟩
  refine ⟨rfl, ?_⟩
  dsimp only [ir_within, q_onB, q_onI, q_onS, q_onF, q_onL, q_onD, q_onT, q_onZ, q_onU_none, q_onU_bool, q_onU_int, q_onU_str, q_onU_tup, q_onU_ints, q_onU_strs, q_onU_fdct, q_un_neg, q_un_not, q_un_it0, q_un_it1, q_un_abs, q_un_mxL, q_un_mnL, q_un_one, q_bi_sub, q_bi_mul, q_bi_fdiv, q_bi_mod, q_bi_add, q_bi_lt, q_bi_le, q_bi_gt, q_bi_ge, q_bi_eq, q_bi_ne, q_bi_mx, q_bi_mn, q_cat, q_eq_s, q_eq_b, q_eq_n, q_eq_t, q_ne_s, q_ne_b, q_ne_n, q_ne_t, q_is_n, q_is_t, q_isnot_n, q_isnot_t, q_eqD_i, q_eqD_t, q_froz_n, q_froz_c, q_frz_none, q_frz_bool, q_frz_int, q_frz_str, q_frz_tup, q_frz_ints, q_frz_strs, q_frz_fdct, q_frz_undef, q_frz_dct, q_look_z, q_look_s, q_upd_z, q_upd_s, q_und_z, q_und_s, q_app_n, q_app_c, q_mkL, q_gI_n, q_gI_i, q_gI_s, q_gS_n, q_gS_i, q_toL_n, q_toL_c, q_dget, q_dset_c, q_dset_n, q_cond_t, q_cond_f, q_for_n, q_for_c, q_allI_i, q_allI_s, q_allI_f, q_allN_n, q_allN_c, q_allK_n, q_allK_c, q_it_t, q_it_s, q_unr_n, q_unr_c, q_isD_none, q_isD_bool, q_isD_int, q_isD_str, q_isD_tup, q_isD_ints, q_isD_strs, q_isD_fdct, q_isD_undef, q_isD_dct, q_hasD_n, q_hasD_c, q_flat_none, q_flat_bool, q_flat_int, q_flat_str, q_flat_ints, q_flat_strs, q_flat_tup, q_flat_fdct, q_flat_dnil, q_flat_dcons, q_tor, q_for_b, q_tand, q_fand, q_nt, q_nf, u_done, u_set, u_set2, u_setD, u_setK, u_ifk, u_freeze, u_ret, u_cont, u_ifr, u_forr, u_ford, w_var, w_lit, w_un, w_bi, w_key, w_bo, w_ite, w_tup, w_call, w_lst, w_dict, w_anil, w_acons, ct_0, ct_1, ct_2, ct_3, ct_4, ct_5, ct_6, ct_7, ct_8, ct_9, ct_10, ct_11, ct_12, ct_13, ct_14, ct_15, ct_16, ct_17, ct_18, ct_19, ct_20, ct_21, ct_22, ct_23, ct_24, ct_25, ct_26, ct_27, Nat.reduceBEq, Nat.reduceAdd, List.map, List.contains, List.elem]
  simp only [eq_self, true_and, and_true, decide_eq_true_eq, decide_eq_false_iff_not, Bool.not_true, Bool.not_false, forall_const, reduceCtorEq, false_implies, implies_true]
  exact ⟨fun p => kb h (dec_e (and_iff_right p)), fun p => kb h (dec_f fun e => p e.1)⟩
theorem f_within (w : World) (h : FS w 10) : FS w 11 := fs_succ h (show FSpec w 91 (10 + 10) T_within from by
  refine' fspec_of (n := 10) ns_within 2 0 ir_within (tabs w) (by decide) (by decide) h ?ho ?hcd ?hb ?hsc ?hco ?hgen ?hk ?hc ?hT
  case ho => k_is
  case hcd => k_is
  case hb =>
    intro vs hv
    obtain ⟨a0, a1, rfl⟩ := len2 hv
    exact rfl
  case hsc => kernel_rfl!
  case hco => rfl
  case hgen => rfl
  case hk => rfl
  case hc => kernel_rfl!
  case hT => exact v_within)
theorem v_join : ∀ (args : List SV) (K : SV → Prop), T_join args K → args.length = 2 ∧ wpS CT ir_join (args ++ undefs 0) (fun _ => K .none) K (fun _ => False) := by
  rintro args K ⟨x0, x1, y0, y1, rfl, h⟩
  exact ⟨rfl, h⟩
theorem f_join (w : World) (h : FS w 11) : FS w 12 := fs_succ h (show FSpec w 98 (11 + 10) T_join from by
  refine' fspec_of (n := 11) ns_join 2 0 ir_join (tabs w) (by decide) (by decide) h ?ho ?hcd ?hb ?hsc ?hco ?hgen ?hk ?hc ?hT
  case ho => k_is
  case hcd => k_is
  case hb =>
    intro vs hv
    obtain ⟨a0, a1, rfl⟩ := len2 hv
    exact rfl
  case hsc => kernel_rfl!
  case hco => rfl
  case hgen => rfl
  case hk => rfl
  case hc => kernel_rfl!
  case hT => exact v_join)
theorem v_widen : ∀ (args : List SV) (K : SV → Prop), T_widen args K → args.length = 2 ∧ wpS CT ir_widen (args ++ undefs 2) (fun _ => K .none) K (fun _ => False) := by
  rintro args K ⟨x0, x1, y0, y1, rfl, h⟩
  refine ⟨rfl, ?_⟩
  dsimp only [ir_widen, q_onB, q_onI, q_onS, q_onF, q_onL, q_onD, q_onT, q_onZ, q_onU_none, q_onU_bool, q_onU_int, q_onU_str, q_onU_tup, q_onU_ints, q_onU_strs, q_onU_fdct, q_un_neg, q_un_not, q_un_it0, q_un_it1, q_un_abs, q_un_mxL, q_un_mnL, q_un_one, q_bi_sub, q_bi_mul, q_bi_fdiv, q_bi_mod, q_bi_add, q_bi_lt, q_bi_le, q_bi_gt, q_bi_ge, q_bi_eq, q_bi_ne, q_bi_mx, q_bi_mn, q_cat, q_eq_s, q_eq_b, q_eq_n, q_eq_t, q_ne_s, q_ne_b, q_ne_n, q_ne_t, q_is_n, q_is_t, q_isnot_n, q_isnot_t, q_eqD_i, q_eqD_t, q_froz_n, q_froz_c, q_frz_none, q_frz_bool, q_frz_int, q_frz_str, q_frz_tup, q_frz_ints, q_frz_strs, q_frz_fdct, q_frz_undef, q_frz_dct, q_look_z, q_look_s, q_upd_z, q_upd_s, q_und_z, q_und_s, q_app_n, q_app_c, q_mkL, q_gI_n, q_gI_i, q_gI_s, q_gS_n, q_gS_i, q_toL_n, q_toL_c, q_dget, q_dset_c, q_dset_n, q_cond_t, q_cond_f, q_for_n, q_for_c, q_allI_i, q_allI_s, q_allI_f, q_allN_n, q_allN_c, q_allK_n, q_allK_c, q_it_t, q_it_s, q_unr_n, q_unr_c, q_isD_none, q_isD_bool, q_isD_int, q_isD_str, q_isD_tup, q_isD_ints, q_isD_strs, q_isD_fdct, q_isD_undef, q_isD_dct, q_hasD_n, q_hasD_c, q_flat_none, q_flat_bool, q_flat_int, q_flat_str, q_flat_ints, q_flat_strs, q_flat_tup, q_flat_fdct, q_flat_dnil, q_flat_dcons, q_tor, q_for_b, q_tand, q_fand, q_nt, q_nf, u_done, u_set, u_set2, u_setD, u_setK, u_ifk, u_freeze, u_ret, u_cont, u_ifr, u_forr, u_ford, w_var, w_lit, w_un, w_bi, w_key, w_bo, w_ite, w_tup, w_call, w_lst, w_dict, w_anil, w_acons, ct_0, ct_1, ct_2, ct_3, ct_4, ct_5, ct_6, ct_7, ct_8, ct_9, ct_10, ct_11, ct_12, ct_13, ct_14, ct_15, ct_16, ct_17, ct_18, ct_19, ct_20, ct_21, ct_22, ct_23, ct_24, ct_25, ct_26, ct_27, Nat.reduceBEq, Nat.reduceAdd, List.map, List.contains, List.elem]
  simp only [eq_self, true_and, and_true, decide_eq_true_eq, decide_eq_false_iff_not, Bool.not_true, Bool.not_false, forall_const, reduceCtorEq, false_implies, implies_true]
  exact ⟨fun p => ⟨fun q => ki h (if_pos p) (if_pos q), fun q => ki h (if_pos p) (if_neg q)⟩, fun p => ⟨fun q => ki h (if_neg p) (if_pos q), fun q => ki h (if_neg p) (if_neg q)⟩⟩
theorem f_widen (w : World) (h : FS w 12) : FS w 13 := fs_succ h (show FSpec w 105 (12 + 10) T_widen from by
  refine' fspec_of (n := 12) ns_widen 2 2 ir_widen (tabs w) (by decide) (by decide) h ?ho ?hcd ?hb ?hsc ?hco ?hgen ?hk ?hc ?hT
  case ho => k_is
  case hcd => k_is
  case hb =>
    intro vs hv
    obtain ⟨a0, a1, rfl⟩ := len2 hv
    exact rfl
  case hsc => kernel_rfl!
  case hco => rfl
  case hgen => rfl
  case hk => rfl
  case hc => kernel_rfl!
  case hT => exact v_widen)
theorem v_meet : ∀ (args : List SV) (K : SV → Prop), T_meet args K → args.length = 2 ∧ wpS CT ir_meet (args ++ undefs 2) (fun _ => K .none) K (fun _ => False) := by
  rintro args K ⟨x0, x1, y0, y1, rfl, h1, h2⟩
  refine ⟨rfl, ?_⟩
  dsimp only [ir_meet, q_onB, q_onI, q_onS, q_onF, q_onL, q_onD, q_onT, q_onZ, q_onU_none, q_onU_bool, q_onU_int, q_onU_str, q_onU_tup, q_onU_ints, q_onU_strs, q_onU_fdct, q_un_neg, q_un_not, q_un_it0, q_un_it1, q_un_abs, q_un_mxL, q_un_mnL, q_un_one, q_bi_sub, q_bi_mul, q_bi_fdiv, q_bi_mod, q_bi_add, q_bi_lt, q_bi_le, q_bi_gt, q_bi_ge, q_bi_eq, q_bi_ne, q_bi_mx, q_bi_mn, q_cat, q_eq_s, q_eq_b, q_eq_n, q_eq_t, q_ne_s, q_ne_b, q_ne_n, q_ne_t, q_is_n, q_is_t, q_isnot_n, q_isnot_t, q_eqD_i, q_eqD_t, q_froz_n, q_froz_c, q_frz_none, q_frz_bool, q_frz_int, q_frz_str, q_frz_tup, q_frz_ints, q_frz_strs, q_frz_fdct, q_frz_undef, q_frz_dct, q_look_z, q_look_s, q_upd_z, q_upd_s, q_und_z, q_und_s, q_app_n, q_app_c, q_mkL, q_gI_n, q_gI_i, q_gI_s, q_gS_n, q_gS_i, q_toL_n, q_toL_c, q_dget, q_dset_c, q_dset_n, q_cond_t, q_cond_f, q_for_n, q_for_c, q_allI_i, q_allI_s, q_allI_f, q_allN_n, q_allN_c, q_allK_n, q_allK_c, q_it_t, q_it_s, q_unr_n, q_unr_c, q_isD_none, q_isD_bool, q_isD_int, q_isD_str, q_isD_tup, q_isD_ints, q_isD_strs, q_isD_fdct, q_isD_undef, q_isD_dct, q_hasD_n, q_hasD_c, q_flat_none, q_flat_bool, q_flat_int, q_flat_str, q_flat_ints, q_flat_strs, q_flat_tup, q_flat_fdct, q_flat_dnil, q_flat_dcons, q_tor, q_for_b, q_tand, q_fand, q_nt, q_nf, u_done, u_set, u_set2, u_setD, u_setK, u_ifk, u_freeze, u_ret, u_cont, u_ifr, u_forr, u_ford, w_var, w_lit, w_un, w_bi, w_key, w_bo, w_ite, w_tup, w_call, w_lst, w_dict, w_anil, w_acons, ct_0, ct_1, ct_2, ct_3, ct_4, ct_5, ct_6, ct_7, ct_8, ct_9, ct_10, ct_11, ct_12, ct_13, ct_14, ct_15, ct_16, ct_17, ct_18, ct_19, ct_20, ct_21, ct_22, ct_23, ct_24, ct_25, ct_26, ct_27, Nat.reduceBEq, Nat.reduceAdd, List.map, List.contains, List.elem]
  simp only [eq_self, true_and, and_true, decide_eq_true_eq, decide_eq_false_iff_not, Bool.not_true, Bool.not_false, forall_const, reduceCtorEq, false_implies, implies_true]
  exact ⟨h1, h2⟩
theorem f_meet (w : World) (h : FS w 13) : FS w 14 := fs_succ h (show FSpec w 112 (13 + 10) T_meet from by
  refine' fspec_of (n := 13) ns_meet 2 2 ir_meet (tabs w) (by decide) (by decide) h ?ho ?hcd ?hb ?hsc ?hco ?hgen ?hk ?hc ?hT
  case ho => k_is
  case hcd => k_is
  case hb =>
    intro vs hv
    obtain ⟨a0, a1, rfl⟩ := len2 hv
    exact rfl
  case hsc => kernel_rfl!
  case hco => rfl
  case hgen => rfl
  case hk => rfl
  case hc => kernel_rfl!
  case hT => exact v_meet)

theorem kt {K : SV → Prop} {a b c d a' b' c' d' : Int} (h : K (.tup (iv a b) (iv c d))) (e : a = a') (f : b = b') (g : c = c') (i : d = d') : K (.tup (iv a' b') (iv c' d')) := by rw [← e, ← f, ← g, ← i]; exact h
theorem bl_1 {x0 x1 y1 g : Int} (hx : x0 ≤ x1) (h0 : -2147483648 ≤ x0) (p : ¬ y1 - g < -2147483648) (r : min x1 (y1 - g) < max x0 (-2147483648)) : ¬ x0 + g ≤ y1 :=
  fun e => absurd r (Int.not_lt.mpr (Int.max_le.mpr ⟨Int.le_min.mpr ⟨hx, Int.le_sub_right_of_add_le e⟩, Int.le_min.mpr ⟨Int.le_trans h0 hx, Int.not_lt.mp p⟩⟩))
theorem v_below : ∀ (args : List SV) (K : SV → Prop), T_below args K → args.length = 3 ∧ wpS CT ir_below (args ++ undefs 2) (fun _ => K .none) K (fun _ => False) := by
  rintro args K ⟨x0, x1, y0, y1, g, rfl, ⟨⟨hx, h0, h1⟩, ⟨hy, h2, h3⟩, hg0, hg1⟩, hn, hs⟩
  refine ⟨rfl, ?_⟩
  dsimp only [ir_below, q_onB, q_onI, q_onS, q_onF, q_onL, q_onD, q_onT, q_onZ, q_onU_none, q_onU_bool, q_onU_int, q_onU_str, q_onU_tup, q_onU_ints, q_onU_strs, q_onU_fdct, q_un_neg, q_un_not, q_un_it0, q_un_it1, q_un_abs, q_un_mxL, q_un_mnL, q_un_one, q_bi_sub, q_bi_mul, q_bi_fdiv, q_bi_mod, q_bi_add, q_bi_lt, q_bi_le, q_bi_gt, q_bi_ge, q_bi_eq, q_bi_ne, q_bi_mx, q_bi_mn, q_cat, q_eq_s, q_eq_b, q_eq_n, q_eq_t, q_ne_s, q_ne_b, q_ne_n, q_ne_t, q_is_n, q_is_t, q_isnot_n, q_isnot_t, q_eqD_i, q_eqD_t, q_froz_n, q_froz_c, q_frz_none, q_frz_bool, q_frz_int, q_frz_str, q_frz_tup, q_frz_ints, q_frz_strs, q_frz_fdct, q_frz_undef, q_frz_dct, q_look_z, q_look_s, q_upd_z, q_upd_s, q_und_z, q_und_s, q_app_n, q_app_c, q_mkL, q_gI_n, q_gI_i, q_gI_s, q_gS_n, q_gS_i, q_toL_n, q_toL_c, q_dget, q_dset_c, q_dset_n, q_cond_t, q_cond_f, q_for_n, q_for_c, q_allI_i, q_allI_s, q_allI_f, q_allN_n, q_allN_c, q_allK_n, q_allK_c, q_it_t, q_it_s, q_unr_n, q_unr_c, q_isD_none, q_isD_bool, q_isD_int, q_isD_str, q_isD_tup, q_isD_ints, q_isD_strs, q_isD_fdct, q_isD_undef, q_isD_dct, q_hasD_n, q_hasD_c, q_flat_none, q_flat_bool, q_flat_int, q_flat_str, q_flat_ints, q_flat_strs, q_flat_tup, q_flat_fdct, q_flat_dnil, q_flat_dcons, q_tor, q_for_b, q_tand, q_fand, q_nt, q_nf, u_done, u_set, u_set2, u_setD, u_setK, u_ifk, u_freeze, u_ret, u_cont, u_ifr, u_forr, u_ford, w_var, w_lit, w_un, w_bi, w_key, w_bo, w_ite, w_tup, w_call, w_lst, w_dict, w_anil, w_acons, ct_0, ct_1, ct_2, ct_3, ct_4, ct_5, ct_6, ct_7, ct_8, ct_9, ct_10, ct_11, ct_12, ct_13, ct_14, ct_15, ct_16, ct_17, ct_18, ct_19, ct_20, ct_21, ct_22, ct_23, ct_24, ct_25, ct_26, ct_27, Nat.reduceBEq, Nat.reduceAdd, List.map, List.contains, List.elem]
  simp only [eq_self, true_and, and_true, decide_eq_true_eq, decide_eq_false_iff_not, Bool.not_true, Bool.not_false, forall_const, reduceCtorEq, false_implies, implies_true]
  refine ⟨fun p => ⟨fun q => hn fun e => absurd (Int.le_trans e h3) (Int.not_le.mpr q), fun q => ⟨_, _, _, _, rfl, fun r => ⟨rfl, _, _, _, _, rfl, fun r2 => ⟨rfl, ?_⟩, fun r2 => ⟨rfl, ?_⟩⟩, fun r => ⟨rfl, _, _, _, _, rfl, fun r2 => ⟨rfl, ?_⟩, fun r2 => ⟨rfl, ?_⟩⟩⟩⟩, fun p => hn fun e => absurd (Int.le_trans h0 (Int.le_sub_right_of_add_le e)) (Int.not_le.mpr p)⟩
  all_goals dsimp only [q_onB, q_onI, q_onS, q_onF, q_onL, q_onD, q_onT, q_onZ, q_onU_none, q_onU_bool, q_onU_int, q_onU_str, q_onU_tup, q_onU_ints, q_onU_strs, q_onU_fdct, q_un_neg, q_un_not, q_un_it0, q_un_it1, q_un_abs, q_un_mxL, q_un_mnL, q_un_one, q_bi_sub, q_bi_mul, q_bi_fdiv, q_bi_mod, q_bi_add, q_bi_lt, q_bi_le, q_bi_gt, q_bi_ge, q_bi_eq, q_bi_ne, q_bi_mx, q_bi_mn, q_cat, q_eq_s, q_eq_b, q_eq_n, q_eq_t, q_ne_s, q_ne_b, q_ne_n, q_ne_t, q_is_n, q_is_t, q_isnot_n, q_isnot_t, q_eqD_i, q_eqD_t, q_froz_n, q_froz_c, q_frz_none, q_frz_bool, q_frz_int, q_frz_str, q_frz_tup, q_frz_ints, q_frz_strs, q_frz_fdct, q_frz_undef, q_frz_dct, q_look_z, q_look_s, q_upd_z, q_upd_s, q_und_z, q_und_s, q_app_n, q_app_c, q_mkL, q_gI_n, q_gI_i, q_gI_s, q_gS_n, q_gS_i, q_toL_n, q_toL_c, q_dget, q_dset_c, q_dset_n, q_cond_t, q_cond_f, q_for_n, q_for_c, q_allI_i, q_allI_s, q_allI_f, q_allN_n, q_allN_c, q_allK_n, q_allK_c, q_it_t, q_it_s, q_unr_n, q_unr_c, q_isD_none, q_isD_bool, q_isD_int, q_isD_str, q_isD_tup, q_isD_ints, q_isD_strs, q_isD_fdct, q_isD_undef, q_isD_dct, q_hasD_n, q_hasD_c, q_flat_none, q_flat_bool, q_flat_int, q_flat_str, q_flat_ints, q_flat_strs, q_flat_tup, q_flat_fdct, q_flat_dnil, q_flat_dcons, q_tor, q_for_b, q_tand, q_fand, q_nt, q_nf, u_done, u_set, u_set2, u_setD, u_setK, u_ifk, u_freeze, u_ret, u_cont, u_ifr, u_forr, u_ford, w_var, w_lit, w_un, w_bi, w_key, w_bo, w_ite, w_tup, w_call, w_lst, w_dict, w_anil, w_acons, ct_0, ct_1, ct_2, ct_3, ct_4, ct_5, ct_6, ct_7, ct_8, ct_9, ct_10, ct_11, ct_12, ct_13, ct_14, ct_15, ct_16, ct_17, ct_18, ct_19, ct_20, ct_21, ct_22, ct_23, ct_24, ct_25, ct_26, ct_27, Nat.reduceBEq, Nat.reduceAdd, List.map, List.contains, List.elem]
  all_goals try simp only [eq_self, true_and, and_true, decide_eq_true_eq, decide_eq_false_iff_not, Bool.not_true, Bool.not_false, forall_const, reduceCtorEq, false_implies, implies_true]
  · exact hn (bl_1 hx h0 p r)
  · exact hn (bl_1 hx h0 p r)
  · exact hn fun e => absurd r2 (Int.not_lt.mpr (Int.max_le.mpr ⟨Int.le_min.mpr ⟨hy, Int.le_trans hy h3⟩, Int.le_min.mpr ⟨e, Int.not_lt.mp q⟩⟩))
  · exact kt (hs (Int.add_le_of_le_sub_right (Int.le_min.mp (Int.max_le.mp (Int.not_lt.mp r)).1).2)) (Int.max_eq_left h0).symm rfl rfl (Int.min_eq_left h3).symm
theorem f_below (w : World) (h : FS w 14) : FS w 15 := fs_succ h (show FSpec w 119 (14 + 10) T_below from by
  refine' fspec_of (n := 14) ns_below 3 2 ir_below (tabs w) (by decide) (by decide) h ?ho ?hcd ?hb ?hsc ?hco ?hgen ?hk ?hc ?hT
  case ho => k_is
  case hcd => k_is
  case hb =>
    intro vs hv
    obtain ⟨a0, a1, a2, rfl⟩ := len3 hv
    exact rfl
  case hsc => kernel_rfl!
  case hco => rfl
  case hgen => rfl
  case hk => rfl
  case hc => kernel_rfl!
  case hT => exact v_below)
theorem v_without : ∀ (args : List SV) (K : SV → Prop), T_without args K → args.length = 2 ∧ wpS CT ir_without (args ++ undefs 0) (fun _ => K .none) K (fun _ => False) := by
  rintro args K ⟨x0, x1, n, rfl, hn, hs⟩
  refine ⟨rfl, ?_⟩
  dsimp only [ir_without, q_onB, q_onI, q_onS, q_onF, q_onL, q_onD, q_onT, q_onZ, q_onU_none, q_onU_bool, q_onU_int, q_onU_str, q_onU_tup, q_onU_ints, q_onU_strs, q_onU_fdct, q_un_neg, q_un_not, q_un_it0, q_un_it1, q_un_abs, q_un_mxL, q_un_mnL, q_un_one, q_bi_sub, q_bi_mul, q_bi_fdiv, q_bi_mod, q_bi_add, q_bi_lt, q_bi_le, q_bi_gt, q_bi_ge, q_bi_eq, q_bi_ne, q_bi_mx, q_bi_mn, q_cat, q_eq_s, q_eq_b, q_eq_n, q_eq_t, q_ne_s, q_ne_b, q_ne_n, q_ne_t, q_is_n, q_is_t, q_isnot_n, q_isnot_t, q_eqD_i, q_eqD_t, q_froz_n, q_froz_c, q_frz_none, q_frz_bool, q_frz_int, q_frz_str, q_frz_tup, q_frz_ints, q_frz_strs, q_frz_fdct, q_frz_undef, q_frz_dct, q_look_z, q_look_s, q_upd_z, q_upd_s, q_und_z, q_und_s, q_app_n, q_app_c, q_mkL, q_gI_n, q_gI_i, q_gI_s, q_gS_n, q_gS_i, q_toL_n, q_toL_c, q_dget, q_dset_c, q_dset_n, q_cond_t, q_cond_f, q_for_n, q_for_c, q_allI_i, q_allI_s, q_allI_f, q_allN_n, q_allN_c, q_allK_n, q_allK_c, q_it_t, q_it_s, q_unr_n, q_unr_c, q_isD_none, q_isD_bool, q_isD_int, q_isD_str, q_isD_tup, q_isD_ints, q_isD_strs, q_isD_fdct, q_isD_undef, q_isD_dct, q_hasD_n, q_hasD_c, q_flat_none, q_flat_bool, q_flat_int, q_flat_str, q_flat_ints, q_flat_strs, q_flat_tup, q_flat_fdct, q_flat_dnil, q_flat_dcons, q_tor, q_for_b, q_tand, q_fand, q_nt, q_nf, u_done, u_set, u_set2, u_setD, u_setK, u_ifk, u_freeze, u_ret, u_cont, u_ifr, u_forr, u_ford, w_var, w_lit, w_un, w_bi, w_key, w_bo, w_ite, w_tup, w_call, w_lst, w_dict, w_anil, w_acons, ct_0, ct_1, ct_2, ct_3, ct_4, ct_5, ct_6, ct_7, ct_8, ct_9, ct_10, ct_11, ct_12, ct_13, ct_14, ct_15, ct_16, ct_17, ct_18, ct_19, ct_20, ct_21, ct_22, ct_23, ct_24, ct_25, ct_26, ct_27, Nat.reduceBEq, Nat.reduceAdd, List.map, List.contains, List.elem]
  simp only [eq_self, true_and, and_true, decide_eq_true_eq, decide_eq_false_iff_not, Bool.not_true, Bool.not_false, forall_const, reduceCtorEq, false_implies, implies_true]
  refine ⟨fun p => ⟨fun q => hn ⟨p, q⟩, fun q => ⟨fun _ => ki (hs fun e => q e.2) (if_pos p) (if_pos p), fun e => absurd p e⟩⟩, fun p => ⟨fun e => absurd e p, fun _ => ⟨fun r => ki (hs fun e => p e.1) (if_neg p) ((if_neg p).trans (if_pos r)), fun r => ki (hs fun e => p e.1) (if_neg p) ((if_neg p).trans (if_neg r))⟩⟩⟩
theorem f_without (w : World) (h : FS w 15) : FS w 16 := fs_succ h (show FSpec w 126 (15 + 10) T_without from by
  refine' fspec_of (n := 15) ns_without 2 0 ir_without (tabs w) (by decide) (by decide) h ?ho ?hcd ?hb ?hsc ?hco ?hgen ?hk ?hc ?hT
  case ho => k_is
  case hcd => k_is
  case hb =>
    intro vs hv
    obtain ⟨a0, a1, rfl⟩ := len2 hv
    exact rfl
  case hsc => kernel_rfl!
  case hco => rfl
  case hgen => rfl
  case hk => rfl
  case hc => kernel_rfl!
  case hT => exact v_without)
theorem v_apart : ∀ (args : List SV) (K : SV → Prop), T_apart args K → args.length = 2 ∧ wpS CT ir_apart (args ++ undefs 2) (fun _ => K .none) K (fun _ => False) := by
  rintro args K ⟨x0, x1, y0, y1, rfl, ⟨⟨hx, h0, h1⟩, ⟨hy, h2, h3⟩⟩, hn, hs⟩
  refine ⟨rfl, ?_⟩
  dsimp only [ir_apart, q_onB, q_onI, q_onS, q_onF, q_onL, q_onD, q_onT, q_onZ, q_onU_none, q_onU_bool, q_onU_int, q_onU_str, q_onU_tup, q_onU_ints, q_onU_strs, q_onU_fdct, q_un_neg, q_un_not, q_un_it0, q_un_it1, q_un_abs, q_un_mxL, q_un_mnL, q_un_one, q_bi_sub, q_bi_mul, q_bi_fdiv, q_bi_mod, q_bi_add, q_bi_lt, q_bi_le, q_bi_gt, q_bi_ge, q_bi_eq, q_bi_ne, q_bi_mx, q_bi_mn, q_cat, q_eq_s, q_eq_b, q_eq_n, q_eq_t, q_ne_s, q_ne_b, q_ne_n, q_ne_t, q_is_n, q_is_t, q_isnot_n, q_isnot_t, q_eqD_i, q_eqD_t, q_froz_n, q_froz_c, q_frz_none, q_frz_bool, q_frz_int, q_frz_str, q_frz_tup, q_frz_ints, q_frz_strs, q_frz_fdct, q_frz_undef, q_frz_dct, q_look_z, q_look_s, q_upd_z, q_upd_s, q_und_z, q_und_s, q_app_n, q_app_c, q_mkL, q_gI_n, q_gI_i, q_gI_s, q_gS_n, q_gS_i, q_toL_n, q_toL_c, q_dget, q_dset_c, q_dset_n, q_cond_t, q_cond_f, q_for_n, q_for_c, q_allI_i, q_allI_s, q_allI_f, q_allN_n, q_allN_c, q_allK_n, q_allK_c, q_it_t, q_it_s, q_unr_n, q_unr_c, q_isD_none, q_isD_bool, q_isD_int, q_isD_str, q_isD_tup, q_isD_ints, q_isD_strs, q_isD_fdct, q_isD_undef, q_isD_dct, q_hasD_n, q_hasD_c, q_flat_none, q_flat_bool, q_flat_int, q_flat_str, q_flat_ints, q_flat_strs, q_flat_tup, q_flat_fdct, q_flat_dnil, q_flat_dcons, q_tor, q_for_b, q_tand, q_fand, q_nt, q_nf, u_done, u_set, u_set2, u_setD, u_setK, u_ifk, u_freeze, u_ret, u_cont, u_ifr, u_forr, u_ford, w_var, w_lit, w_un, w_bi, w_key, w_bo, w_ite, w_tup, w_call, w_lst, w_dict, w_anil, w_acons, ct_0, ct_1, ct_2, ct_3, ct_4, ct_5, ct_6, ct_7, ct_8, ct_9, ct_10, ct_11, ct_12, ct_13, ct_14, ct_15, ct_16, ct_17, ct_18, ct_19, ct_20, ct_21, ct_22, ct_23, ct_24, ct_25, ct_26, ct_27, Nat.reduceBEq, Nat.reduceAdd, List.map, List.contains, List.elem]
  simp only [eq_self, true_and, and_true, decide_eq_true_eq, decide_eq_false_iff_not, Bool.not_true, Bool.not_false, forall_const, reduceCtorEq, false_implies, implies_true]
  refine ⟨fun p => ⟨_, _, _, rfl, fun q => ⟨rfl, fun r => ⟨_, _, _, rfl, fun q2 => ⟨rfl, ?_⟩, fun q2 => ⟨rfl, ?_⟩⟩, fun r => ?_⟩, fun q => ⟨rfl, fun r => ⟨_, _, _, rfl, fun q2 => ⟨rfl, ?_⟩, fun q2 => ⟨rfl, ?_⟩⟩, fun r => ?_⟩⟩, fun p => ⟨fun r => ⟨_, _, _, rfl, fun q2 => ⟨rfl, ?_⟩, fun q2 => ⟨rfl, ?_⟩⟩, fun r => kt (hs fun e => r e.1) (if_neg p) (if_neg p) (if_neg r) (if_neg r)⟩⟩
  all_goals dsimp only [q_onB, q_onI, q_onS, q_onF, q_onL, q_onD, q_onT, q_onZ, q_onU_none, q_onU_bool, q_onU_int, q_onU_str, q_onU_tup, q_onU_ints, q_onU_strs, q_onU_fdct, q_un_neg, q_un_not, q_un_it0, q_un_it1, q_un_abs, q_un_mxL, q_un_mnL, q_un_one, q_bi_sub, q_bi_mul, q_bi_fdiv, q_bi_mod, q_bi_add, q_bi_lt, q_bi_le, q_bi_gt, q_bi_ge, q_bi_eq, q_bi_ne, q_bi_mx, q_bi_mn, q_cat, q_eq_s, q_eq_b, q_eq_n, q_eq_t, q_ne_s, q_ne_b, q_ne_n, q_ne_t, q_is_n, q_is_t, q_isnot_n, q_isnot_t, q_eqD_i, q_eqD_t, q_froz_n, q_froz_c, q_frz_none, q_frz_bool, q_frz_int, q_frz_str, q_frz_tup, q_frz_ints, q_frz_strs, q_frz_fdct, q_frz_undef, q_frz_dct, q_look_z, q_look_s, q_upd_z, q_upd_s, q_und_z, q_und_s, q_app_n, q_app_c, q_mkL, q_gI_n, q_gI_i, q_gI_s, q_gS_n, q_gS_i, q_toL_n, q_toL_c, q_dget, q_dset_c, q_dset_n, q_cond_t, q_cond_f, q_for_n, q_for_c, q_allI_i, q_allI_s, q_allI_f, q_allN_n, q_allN_c, q_allK_n, q_allK_c, q_it_t, q_it_s, q_unr_n, q_unr_c, q_isD_none, q_isD_bool, q_isD_int, q_isD_str, q_isD_tup, q_isD_ints, q_isD_strs, q_isD_fdct, q_isD_undef, q_isD_dct, q_hasD_n, q_hasD_c, q_flat_none, q_flat_bool, q_flat_int, q_flat_str, q_flat_ints, q_flat_strs, q_flat_tup, q_flat_fdct, q_flat_dnil, q_flat_dcons, q_tor, q_for_b, q_tand, q_fand, q_nt, q_nf, u_done, u_set, u_set2, u_setD, u_setK, u_ifk, u_freeze, u_ret, u_cont, u_ifr, u_forr, u_ford, w_var, w_lit, w_un, w_bi, w_key, w_bo, w_ite, w_tup, w_call, w_lst, w_dict, w_anil, w_acons, ct_0, ct_1, ct_2, ct_3, ct_4, ct_5, ct_6, ct_7, ct_8, ct_9, ct_10, ct_11, ct_12, ct_13, ct_14, ct_15, ct_16, ct_17, ct_18, ct_19, ct_20, ct_21, ct_22, ct_23, ct_24, ct_25, ct_26, ct_27, Nat.reduceBEq, Nat.reduceAdd, List.map, List.contains, List.elem]
  all_goals try simp only [eq_self, true_and, and_true, decide_eq_true_eq, decide_eq_false_iff_not, Bool.not_true, Bool.not_false, forall_const, reduceCtorEq, false_implies, implies_true]
  · exact hn ⟨r, p, q.1⟩
  · exact hn ⟨r, p, q.1⟩
  · exact absurd (q.1.trans q.2.symm) r
  · exact hn ⟨r, p, q2.1.symm⟩
  · exact kt (hs fun e => q ⟨e.2.2, e.1.symm.trans e.2.2⟩) (if_pos p) (if_pos p) (if_pos r) (if_pos r)
  · exact kt (hs fun e => r e.1) (if_pos p) (if_pos p) (if_neg r) (if_neg r)
  · exact absurd (q2.1.trans q2.2.symm) p
  · exact kt (hs fun e => p e.2.1) (if_neg p) (if_neg p) (if_pos r) (if_pos r)
theorem f_apart (w : World) (h : FS w 16) : FS w 17 := fs_succ h (show FSpec w 133 (16 + 10) T_apart from by
  refine' fspec_of (n := 16) ns_apart 2 2 ir_apart (tabs w) (by decide) (by decide) h ?ho ?hcd ?hb ?hsc ?hco ?hgen ?hk ?hc ?hT
  case ho => k_is
  case hcd => k_is
  case hb =>
    intro vs hv
    obtain ⟨a0, a1, rfl⟩ := len2 hv
    exact rfl
  case hsc => kernel_rfl!
  case hco => rfl
  case hgen => rfl
  case hk => rfl
  case hc => kernel_rfl!
  case hT => exact v_apart)
theorem narj {rl : Int → Int → Prop} {x0 x1 y0 y1 a0 a1 b0 b1 : Int} (h : NarJ rl y0 y1 x0 x1 b0 b1 a0 a1) : NarJ (fun a b => rl b a) x0 x1 y0 y1 a0 a1 b0 b1 :=
  ⟨h.2.2.1, h.2.2.2.1, h.1, h.2.1, fun a b p1 p2 p3 p4 r => ⟨(h.2.2.2.2 b a p3 p4 p1 p2 r).2.2.1, (h.2.2.2.2 b a p3 p4 p1 p2 r).2.2.2, (h.2.2.2.2 b a p3 p4 p1 p2 r).1, (h.2.2.2.2 b a p3 p4 p1 p2 r).2.1⟩⟩
theorem nar_lt {x0 x1 y0 y1 : Int} : NarJ (fun a b => a < b) x0 x1 y0 y1 x0 (min x1 (y1 - 1)) (max y0 (x0 + 1)) y1 :=
  ⟨Int.le_refl _, Int.min_le_left _ _, Int.le_max_left _ _, Int.le_refl _, fun a b p1 p2 p3 p4 (p5 : a < b) => ⟨p1, Int.le_min.mpr ⟨p2, Int.le_sub_one_of_lt (Int.lt_of_lt_of_le p5 p4)⟩, Int.max_le.mpr ⟨p3, Int.lt_of_le_of_lt p1 p5⟩, p4⟩⟩
theorem nar_le {x0 x1 y0 y1 : Int} : NarJ (fun a b => a ≤ b) x0 x1 y0 y1 x0 (min x1 (y1 - 0)) (max y0 (x0 + 0)) y1 := by
  rw [Int.sub_zero, Int.add_zero]
  exact ⟨Int.le_refl _, Int.min_le_left _ _, Int.le_max_left _ _, Int.le_refl _, fun a b p1 p2 p3 p4 (p5 : a ≤ b) => ⟨p1, Int.le_min.mpr ⟨p2, Int.le_trans p5 p4⟩, Int.max_le.mpr ⟨p3, Int.le_trans p1 p5⟩, p4⟩⟩
theorem nar_eq {x0 x1 y0 y1 : Int} : NarJ (fun a b => a = b) x0 x1 y0 y1 (max x0 y0) (min x1 y1) (max x0 y0) (min x1 y1) :=
  ⟨Int.le_max_left _ _, Int.min_le_left _ _, Int.le_max_right _ _, Int.min_le_right _ _, fun a b p1 p2 p3 p4 (p5 : a = b) => by subst p5; exact ⟨Int.max_le.mpr ⟨p1, p3⟩, Int.le_min.mpr ⟨p2, p4⟩, Int.max_le.mpr ⟨p1, p3⟩, Int.le_min.mpr ⟨p2, p4⟩⟩⟩
theorem sep_le {x0 x1 y0 y1 : Int} (hx : x0 ≤ x1) (hy : y0 ≤ y1) : (¬ min x1 y1 < max x0 y0) ↔ ¬ (x1 < y0 ∨ y1 < x0) := by
  rw [Int.not_lt, Int.max_le, Int.le_min, Int.le_min, not_or, Int.not_lt, Int.not_lt]
  exact ⟨fun h => ⟨h.2.1, h.1.2⟩, fun h => ⟨⟨hx, h.2⟩, h.1, hy⟩⟩
theorem z0 {a b : Int} : a + 0 ≤ b ↔ a ≤ b := by rw [Int.add_zero]
theorem nn {P : Prop} (h : P) : ¬ ¬ P := fun k => k h
theorem op5 {op : Nat} (ho : op < 6) : (op == 0) = false → (op == 1) = false → (op == 2) = false → (op == 3) = false → (op == 4) = false → op = 5 :=
  lt6 (P := fun op => (op == 0) = false → (op == 1) = false → (op == 2) = false → (op == 3) = false → (op == 4) = false → op = 5) (fun h => bad rfl h) (fun _ h => bad rfl h) (fun _ _ h => bad rfl h) (fun _ _ _ h => bad rfl h) (fun _ _ _ _ h => bad rfl h) (fun _ _ _ _ _ => rfl) ho
theorem nbeq {a b : Nat} (h : (a == b) = false) : a ≠ b := beq_eq_false_iff_ne.mp h
theorem v_narrow : ∀ (args : List SV) (K : SV → Prop), T_narrow args K → args.length = 3 ∧ wpS CT ir_narrow (args ++ undefs 2) (fun _ => K .none) K (fun _ => False) := by
  rintro args K ⟨op, x0, x1, y0, y1, rfl, ⟨ho, ⟨hx, h0, h1⟩, ⟨hy, h2, h3⟩⟩, ha, hb⟩
  refine ⟨rfl, ?_⟩
  dsimp only [ir_narrow, q_onB, q_onI, q_onS, q_onF, q_onL, q_onD, q_onT, q_onZ, q_onU_none, q_onU_bool, q_onU_int, q_onU_str, q_onU_tup, q_onU_ints, q_onU_strs, q_onU_fdct, q_un_neg, q_un_not, q_un_it0, q_un_it1, q_un_abs, q_un_mxL, q_un_mnL, q_un_one, q_bi_sub, q_bi_mul, q_bi_fdiv, q_bi_mod, q_bi_add, q_bi_lt, q_bi_le, q_bi_gt, q_bi_ge, q_bi_eq, q_bi_ne, q_bi_mx, q_bi_mn, q_cat, q_eq_s, q_eq_b, q_eq_n, q_eq_t, q_ne_s, q_ne_b, q_ne_n, q_ne_t, q_is_n, q_is_t, q_isnot_n, q_isnot_t, q_eqD_i, q_eqD_t, q_froz_n, q_froz_c, q_frz_none, q_frz_bool, q_frz_int, q_frz_str, q_frz_tup, q_frz_ints, q_frz_strs, q_frz_fdct, q_frz_undef, q_frz_dct, q_look_z, q_look_s, q_upd_z, q_upd_s, q_und_z, q_und_s, q_app_n, q_app_c, q_mkL, q_gI_n, q_gI_i, q_gI_s, q_gS_n, q_gS_i, q_toL_n, q_toL_c, q_dget, q_dset_c, q_dset_n, q_cond_t, q_cond_f, q_for_n, q_for_c, q_allI_i, q_allI_s, q_allI_f, q_allN_n, q_allN_c, q_allK_n, q_allK_c, q_it_t, q_it_s, q_unr_n, q_unr_c, q_isD_none, q_isD_bool, q_isD_int, q_isD_str, q_isD_tup, q_isD_ints, q_isD_strs, q_isD_fdct, q_isD_undef, q_isD_dct, q_hasD_n, q_hasD_c, q_flat_none, q_flat_bool, q_flat_int, q_flat_str, q_flat_ints, q_flat_strs, q_flat_tup, q_flat_fdct, q_flat_dnil, q_flat_dcons, q_tor, q_for_b, q_tand, q_fand, q_nt, q_nf, u_done, u_set, u_set2, u_setD, u_setK, u_ifk, u_freeze, u_ret, u_cont, u_ifr, u_forr, u_ford, w_var, w_lit, w_un, w_bi, w_key, w_bo, w_ite, w_tup, w_call, w_lst, w_dict, w_anil, w_acons, ct_0, ct_1, ct_2, ct_3, ct_4, ct_5, ct_6, ct_7, ct_8, ct_9, ct_10, ct_11, ct_12, ct_13, ct_14, ct_15, ct_16, ct_17, ct_18, ct_19, ct_20, ct_21, ct_22, ct_23, ct_24, ct_25, ct_26, ct_27, Nat.reduceBEq, Nat.reduceAdd, List.map, List.contains, List.elem]
  simp only [eq_self, true_and, and_true, decide_eq_true_eq, decide_eq_false_iff_not, Bool.not_true, Bool.not_false, forall_const, reduceCtorEq, false_implies, implies_true]
  refine ⟨fun e => ?_, fun n0 => ⟨fun e => ?_, fun n1 => ⟨fun n2 => ⟨fun e => ⟨fun e2 => bad e2 n2, fun _ => ?_⟩, fun n3 => ⟨fun e => ?_, fun n4 => ?_⟩⟩, fun e => ⟨fun _ => ?_, fun n2 => bad e n2⟩⟩⟩⟩
  · cases eq_of_beq e
    obtain ⟨hn, hs⟩ := ha (by decide)
    refine ⟨_, _, _, _, rfl, fun c => ⟨rfl, ?_⟩, fun c => ⟨rfl, ?_⟩⟩
    all_goals dsimp only [q_onB, q_onI, q_onS, q_onF, q_onL, q_onD, q_onT, q_onZ, q_onU_none, q_onU_bool, q_onU_int, q_onU_str, q_onU_tup, q_onU_ints, q_onU_strs, q_onU_fdct, q_un_neg, q_un_not, q_un_it0, q_un_it1, q_un_abs, q_un_mxL, q_un_mnL, q_un_one, q_bi_sub, q_bi_mul, q_bi_fdiv, q_bi_mod, q_bi_add, q_bi_lt, q_bi_le, q_bi_gt, q_bi_ge, q_bi_eq, q_bi_ne, q_bi_mx, q_bi_mn, q_cat, q_eq_s, q_eq_b, q_eq_n, q_eq_t, q_ne_s, q_ne_b, q_ne_n, q_ne_t, q_is_n, q_is_t, q_isnot_n, q_isnot_t, q_eqD_i, q_eqD_t, q_froz_n, q_froz_c, q_frz_none, q_frz_bool, q_frz_int, q_frz_str, q_frz_tup, q_frz_ints, q_frz_strs, q_frz_fdct, q_frz_undef, q_frz_dct, q_look_z, q_look_s, q_upd_z, q_upd_s, q_und_z, q_und_s, q_app_n, q_app_c, q_mkL, q_gI_n, q_gI_i, q_gI_s, q_gS_n, q_gS_i, q_toL_n, q_toL_c, q_dget, q_dset_c, q_dset_n, q_cond_t, q_cond_f, q_for_n, q_for_c, q_allI_i, q_allI_s, q_allI_f, q_allN_n, q_allN_c, q_allK_n, q_allK_c, q_it_t, q_it_s, q_unr_n, q_unr_c, q_isD_none, q_isD_bool, q_isD_int, q_isD_str, q_isD_tup, q_isD_ints, q_isD_strs, q_isD_fdct, q_isD_undef, q_isD_dct, q_hasD_n, q_hasD_c, q_flat_none, q_flat_bool, q_flat_int, q_flat_str, q_flat_ints, q_flat_strs, q_flat_tup, q_flat_fdct, q_flat_dnil, q_flat_dcons, q_tor, q_for_b, q_tand, q_fand, q_nt, q_nf, u_done, u_set, u_set2, u_setD, u_setK, u_ifk, u_freeze, u_ret, u_cont, u_ifr, u_forr, u_ford, w_var, w_lit, w_un, w_bi, w_key, w_bo, w_ite, w_tup, w_call, w_lst, w_dict, w_anil, w_acons, ct_0, ct_1, ct_2, ct_3, ct_4, ct_5, ct_6, ct_7, ct_8, ct_9, ct_10, ct_11, ct_12, ct_13, ct_14, ct_15, ct_16, ct_17, ct_18, ct_19, ct_20, ct_21, ct_22, ct_23, ct_24, ct_25, ct_26, ct_27, Nat.reduceBEq, Nat.reduceAdd, List.map, List.contains, List.elem]
    all_goals try simp only [eq_self, true_and, and_true, decide_eq_true_eq, decide_eq_false_iff_not, Bool.not_true, Bool.not_false, forall_const, reduceCtorEq, false_implies, implies_true]
    · exact hn (show x1 < y0 ∨ y1 < x0 from Decidable.not_not.mp fun k => (sep_le hx hy).mpr k c)
    · exact hs ((sep_le hx hy).mp c) _ _ _ _ nar_eq
  · cases eq_of_beq e
    exact ⟨_, _, _, _, rfl, ⟨⟨hx, h0, h1⟩, hy, h2, h3⟩, hb rfl⟩
  · cases eq_of_beq e
    obtain ⟨hn, hs⟩ := ha (by decide)
    exact ⟨_, _, _, _, _, rfl, ⟨⟨hx, h0, h1⟩, ⟨hy, h2, h3⟩, by decide⟩, fun c => hn fun k => c (z0.mpr k), fun c => hs (nn (z0.mp c)) _ _ _ _ nar_le⟩
  · cases eq_of_beq e
    obtain ⟨hn, hs⟩ := ha (by decide)
    refine ⟨_, _, _, _, _, rfl, ⟨⟨hy, h2, h3⟩, ⟨hx, h0, h1⟩, by decide⟩, fun c => ⟨rfl, ?_⟩, fun c => ⟨rfl, ?_⟩⟩
    all_goals dsimp only [q_onB, q_onI, q_onS, q_onF, q_onL, q_onD, q_onT, q_onZ, q_onU_none, q_onU_bool, q_onU_int, q_onU_str, q_onU_tup, q_onU_ints, q_onU_strs, q_onU_fdct, q_un_neg, q_un_not, q_un_it0, q_un_it1, q_un_abs, q_un_mxL, q_un_mnL, q_un_one, q_bi_sub, q_bi_mul, q_bi_fdiv, q_bi_mod, q_bi_add, q_bi_lt, q_bi_le, q_bi_gt, q_bi_ge, q_bi_eq, q_bi_ne, q_bi_mx, q_bi_mn, q_cat, q_eq_s, q_eq_b, q_eq_n, q_eq_t, q_ne_s, q_ne_b, q_ne_n, q_ne_t, q_is_n, q_is_t, q_isnot_n, q_isnot_t, q_eqD_i, q_eqD_t, q_froz_n, q_froz_c, q_frz_none, q_frz_bool, q_frz_int, q_frz_str, q_frz_tup, q_frz_ints, q_frz_strs, q_frz_fdct, q_frz_undef, q_frz_dct, q_look_z, q_look_s, q_upd_z, q_upd_s, q_und_z, q_und_s, q_app_n, q_app_c, q_mkL, q_gI_n, q_gI_i, q_gI_s, q_gS_n, q_gS_i, q_toL_n, q_toL_c, q_dget, q_dset_c, q_dset_n, q_cond_t, q_cond_f, q_for_n, q_for_c, q_allI_i, q_allI_s, q_allI_f, q_allN_n, q_allN_c, q_allK_n, q_allK_c, q_it_t, q_it_s, q_unr_n, q_unr_c, q_isD_none, q_isD_bool, q_isD_int, q_isD_str, q_isD_tup, q_isD_ints, q_isD_strs, q_isD_fdct, q_isD_undef, q_isD_dct, q_hasD_n, q_hasD_c, q_flat_none, q_flat_bool, q_flat_int, q_flat_str, q_flat_ints, q_flat_strs, q_flat_tup, q_flat_fdct, q_flat_dnil, q_flat_dcons, q_tor, q_for_b, q_tand, q_fand, q_nt, q_nf, u_done, u_set, u_set2, u_setD, u_setK, u_ifk, u_freeze, u_ret, u_cont, u_ifr, u_forr, u_ford, w_var, w_lit, w_un, w_bi, w_key, w_bo, w_ite, w_tup, w_call, w_lst, w_dict, w_anil, w_acons, ct_0, ct_1, ct_2, ct_3, ct_4, ct_5, ct_6, ct_7, ct_8, ct_9, ct_10, ct_11, ct_12, ct_13, ct_14, ct_15, ct_16, ct_17, ct_18, ct_19, ct_20, ct_21, ct_22, ct_23, ct_24, ct_25, ct_26, ct_27, Nat.reduceBEq, Nat.reduceAdd, List.map, List.contains, List.elem]
    all_goals try simp only [eq_self, true_and, and_true, decide_eq_true_eq, decide_eq_false_iff_not, Bool.not_true, Bool.not_false, forall_const, reduceCtorEq, false_implies, implies_true]
    · exact hn c
    · exact hs (nn c) _ _ _ _ (narj nar_lt)
  · have e : op = 5 := op5 ho n0 n1 n2 n3 n4
    subst e
    obtain ⟨hn, hs⟩ := ha (by decide)
    refine ⟨_, _, _, _, _, rfl, ⟨⟨hy, h2, h3⟩, ⟨hx, h0, h1⟩, by decide⟩, fun c => ⟨rfl, ?_⟩, fun c => ⟨rfl, ?_⟩⟩
    all_goals dsimp only [q_onB, q_onI, q_onS, q_onF, q_onL, q_onD, q_onT, q_onZ, q_onU_none, q_onU_bool, q_onU_int, q_onU_str, q_onU_tup, q_onU_ints, q_onU_strs, q_onU_fdct, q_un_neg, q_un_not, q_un_it0, q_un_it1, q_un_abs, q_un_mxL, q_un_mnL, q_un_one, q_bi_sub, q_bi_mul, q_bi_fdiv, q_bi_mod, q_bi_add, q_bi_lt, q_bi_le, q_bi_gt, q_bi_ge, q_bi_eq, q_bi_ne, q_bi_mx, q_bi_mn, q_cat, q_eq_s, q_eq_b, q_eq_n, q_eq_t, q_ne_s, q_ne_b, q_ne_n, q_ne_t, q_is_n, q_is_t, q_isnot_n, q_isnot_t, q_eqD_i, q_eqD_t, q_froz_n, q_froz_c, q_frz_none, q_frz_bool, q_frz_int, q_frz_str, q_frz_tup, q_frz_ints, q_frz_strs, q_frz_fdct, q_frz_undef, q_frz_dct, q_look_z, q_look_s, q_upd_z, q_upd_s, q_und_z, q_und_s, q_app_n, q_app_c, q_mkL, q_gI_n, q_gI_i, q_gI_s, q_gS_n, q_gS_i, q_toL_n, q_toL_c, q_dget, q_dset_c, q_dset_n, q_cond_t, q_cond_f, q_for_n, q_for_c, q_allI_i, q_allI_s, q_allI_f, q_allN_n, q_allN_c, q_allK_n, q_allK_c, q_it_t, q_it_s, q_unr_n, q_unr_c, q_isD_none, q_isD_bool, q_isD_int, q_isD_str, q_isD_tup, q_isD_ints, q_isD_strs, q_isD_fdct, q_isD_undef, q_isD_dct, q_hasD_n, q_hasD_c, q_flat_none, q_flat_bool, q_flat_int, q_flat_str, q_flat_ints, q_flat_strs, q_flat_tup, q_flat_fdct, q_flat_dnil, q_flat_dcons, q_tor, q_for_b, q_tand, q_fand, q_nt, q_nf, u_done, u_set, u_set2, u_setD, u_setK, u_ifk, u_freeze, u_ret, u_cont, u_ifr, u_forr, u_ford, w_var, w_lit, w_un, w_bi, w_key, w_bo, w_ite, w_tup, w_call, w_lst, w_dict, w_anil, w_acons, ct_0, ct_1, ct_2, ct_3, ct_4, ct_5, ct_6, ct_7, ct_8, ct_9, ct_10, ct_11, ct_12, ct_13, ct_14, ct_15, ct_16, ct_17, ct_18, ct_19, ct_20, ct_21, ct_22, ct_23, ct_24, ct_25, ct_26, ct_27, Nat.reduceBEq, Nat.reduceAdd, List.map, List.contains, List.elem]
    all_goals try simp only [eq_self, true_and, and_true, decide_eq_true_eq, decide_eq_false_iff_not, Bool.not_true, Bool.not_false, forall_const, reduceCtorEq, false_implies, implies_true]
    · exact hn fun k => c (z0.mpr k)
    · exact hs (nn (z0.mp c)) _ _ _ _ (narj nar_le)
  · cases eq_of_beq e
    obtain ⟨hn, hs⟩ := ha (by decide)
    exact ⟨_, _, _, _, _, rfl, ⟨⟨hx, h0, h1⟩, ⟨hy, h2, h3⟩, by decide⟩, fun c => hn c, fun c => hs (nn c) _ _ _ _ nar_lt⟩
theorem f_narrow (w : World) (h : FS w 17) : FS w 18 := fs_succ h (show FSpec w 140 (17 + 10) T_narrow from by
  refine' fspec_of (n := 17) ns_narrow 3 2 ir_narrow (tabs w) (by decide) (by decide) h ?ho ?hcd ?hb ?hsc ?hco ?hgen ?hk ?hc ?hT
  case ho => k_is
  case hcd => k_is
  case hb =>
    intro vs hv
    obtain ⟨a0, a1, a2, rfl⟩ := len3 hv
    exact rfl
  case hsc => kernel_rfl!
  case hco => rfl
  case hgen => rfl
  case hk => rfl
  case hc => kernel_rfl!
  case hT => exact v_narrow)
theorem v_opposite : ∀ (args : List SV) (K : SV → Prop), T_opposite args K → args.length = 1 ∧ wpS CT ir_opposite (args ++ undefs 0) (fun _ => K .none) K (fun _ => False) := by
  rintro args K ⟨op, rfl, ho, h⟩
  refine ⟨rfl, ?_⟩
  revert h
  exact lt6 (P := fun op => K (.str (opp op)) → wpS CT ir_opposite ([SV.str op] ++ undefs 0) (fun _ => K .none) K (fun _ => False)) (fun h => ⟨by kernel_rfl!, h⟩) (fun h => ⟨by kernel_rfl!, h⟩) (fun h => ⟨by kernel_rfl!, h⟩) (fun h => ⟨by kernel_rfl!, h⟩) (fun h => ⟨by kernel_rfl!, h⟩) (fun h => ⟨by kernel_rfl!, h⟩) ho
theorem f_opposite (w : World) (h : FS w 18) : FS w 19 := fs_succ h (show FSpec w 147 (18 + 10) T_opposite from by
  refine' fspec_of (n := 18) ns_opposite 1 0 ir_opposite (tabs w) (by decide) (by decide) h ?ho ?hcd ?hb ?hsc ?hco ?hgen ?hk ?hc ?hT
  case ho => k_is
  case hcd => k_is
  case hb =>
    intro vs hv
    obtain ⟨a0, rfl⟩ := len1 hv
    exact rfl
  case hsc => kernel_rfl!
  case hco => rfl
  case hgen => rfl
  case hk => rfl
  case hc => kernel_rfl!
  case hT => exact v_opposite)
theorem v_law_ok : ∀ (args : List SV) (K : SV → Prop), T_law_ok args K → args.length = 1 ∧ wpS CT ir_law_ok (args ++ undefs 0) (fun _ => K .none) K (fun _ => False) := by
  rintro args K ⟨n, rfl, h⟩
  refine ⟨rfl, ?_⟩
  dsimp only [ir_law_ok, q_onB, q_onI, q_onS, q_onF, q_onL, q_onD, q_onT, q_onZ, q_onU_none, q_onU_bool, q_onU_int, q_onU_str, q_onU_tup, q_onU_ints, q_onU_strs, q_onU_fdct, q_un_neg, q_un_not, q_un_it0, q_un_it1, q_un_abs, q_un_mxL, q_un_mnL, q_un_one, q_bi_sub, q_bi_mul, q_bi_fdiv, q_bi_mod, q_bi_add, q_bi_lt, q_bi_le, q_bi_gt, q_bi_ge, q_bi_eq, q_bi_ne, q_bi_mx, q_bi_mn, q_cat, q_eq_s, q_eq_b, q_eq_n, q_eq_t, q_ne_s, q_ne_b, q_ne_n, q_ne_t, q_is_n, q_is_t, q_isnot_n, q_isnot_t, q_eqD_i, q_eqD_t, q_froz_n, q_froz_c, q_frz_none, q_frz_bool, q_frz_int, q_frz_str, q_frz_tup, q_frz_ints, q_frz_strs, q_frz_fdct, q_frz_undef, q_frz_dct, q_look_z, q_look_s, q_upd_z, q_upd_s, q_und_z, q_und_s, q_app_n, q_app_c, q_mkL, q_gI_n, q_gI_i, q_gI_s, q_gS_n, q_gS_i, q_toL_n, q_toL_c, q_dget, q_dset_c, q_dset_n, q_cond_t, q_cond_f, q_for_n, q_for_c, q_allI_i, q_allI_s, q_allI_f, q_allN_n, q_allN_c, q_allK_n, q_allK_c, q_it_t, q_it_s, q_unr_n, q_unr_c, q_isD_none, q_isD_bool, q_isD_int, q_isD_str, q_isD_tup, q_isD_ints, q_isD_strs, q_isD_fdct, q_isD_undef, q_isD_dct, q_hasD_n, q_hasD_c, q_flat_none, q_flat_bool, q_flat_int, q_flat_str, q_flat_ints, q_flat_strs, q_flat_tup, q_flat_fdct, q_flat_dnil, q_flat_dcons, q_tor, q_for_b, q_tand, q_fand, q_nt, q_nf, u_done, u_set, u_set2, u_setD, u_setK, u_ifk, u_freeze, u_ret, u_cont, u_ifr, u_forr, u_ford, w_var, w_lit, w_un, w_bi, w_key, w_bo, w_ite, w_tup, w_call, w_lst, w_dict, w_anil, w_acons, ct_0, ct_1, ct_2, ct_3, ct_4, ct_5, ct_6, ct_7, ct_8, ct_9, ct_10, ct_11, ct_12, ct_13, ct_14, ct_15, ct_16, ct_17, ct_18, ct_19, ct_20, ct_21, ct_22, ct_23, ct_24, ct_25, ct_26, ct_27, Nat.reduceBEq, Nat.reduceAdd, List.map, List.contains, List.elem]
  simp only [eq_self, true_and, and_true, decide_eq_true_eq, decide_eq_false_iff_not, Bool.not_true, Bool.not_false, forall_const, reduceCtorEq, false_implies, implies_true]
  exact ⟨fun p => kb h (dec_e (and_iff_right p)), fun p => kb h (dec_f fun e => p e.1)⟩
theorem f_law_ok (w : World) (h : FS w 19) : FS w 20 := fs_succ h (show FSpec w 189 (19 + 10) T_law_ok from by
  refine' fspec_of (n := 19) ns_law_ok 1 0 ir_law_ok (tabs w) (by decide) (by decide) h ?ho ?hcd ?hb ?hsc ?hco ?hgen ?hk ?hc ?hT
  case ho => k_is
  case hcd => k_is
  case hb =>
    intro vs hv
    obtain ⟨a0, rfl⟩ := len1 hv
    exact rfl
  case hsc => kernel_rfl!
  case hco => rfl
  case hgen => rfl
  case hk => rfl
  case hc => kernel_rfl!
  case hT => exact v_law_ok)
theorem ediv_is {a b q : Int} (hb : 0 < b) (h1 : q * b ≤ a) (h2 : a < (q + 1) * b) : q = a / b := by
  have e1 := (Int.le_ediv_iff_mul_le hb).mpr h1
  have e2 := (Int.ediv_lt_iff_lt_mul hb).mpr h2
  exact Int.le_antisymm e1 (Int.lt_add_one_iff.mp e2)
theorem floor_neg1 {a b : Int} (hb : 0 < b) (h : ¬ -a / b * b = -a) : a / b = -(-a / b) - 1 := by
  have e := Int.mul_ediv_add_emod (-a) b
  have r0 := Int.emod_nonneg (-a) (Int.ne_of_gt hb)
  have r1 := Int.emod_lt_of_pos (-a) hb
  rw [Int.mul_comm] at e
  have g1 : (-(-a / b) - 1) * b = -(-a / b * b) - b := by rw [Int.sub_mul, Int.neg_mul, Int.one_mul]
  have g2 : (-(-a / b) - 1 + 1) * b = -(-a / b * b) := by rw [Int.sub_add_cancel, Int.neg_mul]
  exact (ediv_is hb (by rw [g1]; omega) (by rw [g2]; omega)).symm
theorem floor_neg2 {a b : Int} (hb : 0 < b) (h : -a / b * b = -a) : a / b = -(-a / b) := by
  have g1 : (-(-a / b)) * b = -(-a / b * b) := Int.neg_mul _ _
  have g2 : (-(-a / b) + 1) * b = -(-a / b * b) + b := by rw [Int.add_mul, Int.neg_mul, Int.one_mul]
  exact (ediv_is hb (by rw [g1]; omega) (by rw [g2]; omega)).symm
theorem kn {K : SV → Prop} {a b : Int} (h : K (.int a)) (e : a = b) : K (.int b) := e ▸ h
theorem div_nab {a b : Int} (hb : 0 < b) (ha : a.natAbs < 1099511627776) : (a / b).natAbs < 1099511627776 := by
  exact Nat.lt_of_le_of_lt (Int.natAbs_ediv_le_natAbs a b) ha
theorem v_law_floor : ∀ (args : List SV) (K : SV → Prop), T_law_floor args K → args.length = 2 ∧ wpS CT ir_law_floor (args ++ undefs 1) (fun _ => K .none) K (fun _ => False) := by
  rintro args K ⟨a, b, rfl, ⟨ha, hb0, hb1⟩, h⟩
  refine ⟨rfl, ?_⟩
  dsimp only [ir_law_floor, q_onB, q_onI, q_onS, q_onF, q_onL, q_onD, q_onT, q_onZ, q_onU_none, q_onU_bool, q_onU_int, q_onU_str, q_onU_tup, q_onU_ints, q_onU_strs, q_onU_fdct, q_un_neg, q_un_not, q_un_it0, q_un_it1, q_un_abs, q_un_mxL, q_un_mnL, q_un_one, q_bi_sub, q_bi_mul, q_bi_fdiv, q_bi_mod, q_bi_add, q_bi_lt, q_bi_le, q_bi_gt, q_bi_ge, q_bi_eq, q_bi_ne, q_bi_mx, q_bi_mn, q_cat, q_eq_s, q_eq_b, q_eq_n, q_eq_t, q_ne_s, q_ne_b, q_ne_n, q_ne_t, q_is_n, q_is_t, q_isnot_n, q_isnot_t, q_eqD_i, q_eqD_t, q_froz_n, q_froz_c, q_frz_none, q_frz_bool, q_frz_int, q_frz_str, q_frz_tup, q_frz_ints, q_frz_strs, q_frz_fdct, q_frz_undef, q_frz_dct, q_look_z, q_look_s, q_upd_z, q_upd_s, q_und_z, q_und_s, q_app_n, q_app_c, q_mkL, q_gI_n, q_gI_i, q_gI_s, q_gS_n, q_gS_i, q_toL_n, q_toL_c, q_dget, q_dset_c, q_dset_n, q_cond_t, q_cond_f, q_for_n, q_for_c, q_allI_i, q_allI_s, q_allI_f, q_allN_n, q_allN_c, q_allK_n, q_allK_c, q_it_t, q_it_s, q_unr_n, q_unr_c, q_isD_none, q_isD_bool, q_isD_int, q_isD_str, q_isD_tup, q_isD_ints, q_isD_strs, q_isD_fdct, q_isD_undef, q_isD_dct, q_hasD_n, q_hasD_c, q_flat_none, q_flat_bool, q_flat_int, q_flat_str, q_flat_ints, q_flat_strs, q_flat_tup, q_flat_fdct, q_flat_dnil, q_flat_dcons, q_tor, q_for_b, q_tand, q_fand, q_nt, q_nf, u_done, u_set, u_set2, u_setD, u_setK, u_ifk, u_freeze, u_ret, u_cont, u_ifr, u_forr, u_ford, w_var, w_lit, w_un, w_bi, w_key, w_bo, w_ite, w_tup, w_call, w_lst, w_dict, w_anil, w_acons, ct_0, ct_1, ct_2, ct_3, ct_4, ct_5, ct_6, ct_7, ct_8, ct_9, ct_10, ct_11, ct_12, ct_13, ct_14, ct_15, ct_16, ct_17, ct_18, ct_19, ct_20, ct_21, ct_22, ct_23, ct_24, ct_25, ct_26, ct_27, Nat.reduceBEq, Nat.reduceAdd, List.map, List.contains, List.elem]
  simp only [eq_self, true_and, and_true, decide_eq_true_eq, decide_eq_false_iff_not, Bool.not_true, Bool.not_false, forall_const, reduceCtorEq, false_implies, implies_true]
  refine ⟨⟨hb0, Int.lt_of_le_of_lt hb1 (by decide)⟩, fun p => ?_, fun p => ⟨fun q => kn h ?_, fun q => absurd p (nn (Int.not_le.mp q))⟩⟩
  · rw [if_pos p]
    refine ⟨⟨div_nab hb0 (by rw [Int.natAbs_neg]; exact nab ha.1 ha.2), nab (Int.le_trans (by decide) (Int.le_of_lt hb0)) hb1⟩, fun q => kn h (floor_neg1 hb0 (of_decide_eq_false (bnot q))), fun q => ⟨fun r => absurd p (Int.not_lt.mpr r), fun _ => kn h (floor_neg2 hb0 (of_decide_eq_true ?_))⟩⟩
    revert q; cases decide (-a / b * b = -a) <;> intro q <;> first | rfl | cases q
  · rw [if_neg p]
theorem f_law_floor (w : World) (h : FS w 20) : FS w 21 := fs_succ h (show FSpec w 196 (20 + 10) T_law_floor from by
  refine' fspec_of (n := 20) ns_law_floor 2 1 ir_law_floor (tabs w) (by decide) (by decide) h ?ho ?hcd ?hb ?hsc ?hco ?hgen ?hk ?hc ?hT
  case ho => k_is
  case hcd => k_is
  case hb =>
    intro vs hv
    obtain ⟨a0, a1, rfl⟩ := len2 hv
    exact rfl
  case hsc => kernel_rfl!
  case hco => rfl
  case hgen => rfl
  case hk => rfl
  case hc => kernel_rfl!
  case hT => exact v_law_floor)
theorem v_law_results : ∀ (args : List SV) (K : SV → Prop), T_law_results args K → args.length = 2 ∧ wpS CT ir_law_results (args ++ undefs 1) (fun _ => K .none) K (fun _ => False) := by
  rintro args K ⟨a, b, rfl, ⟨ha, hb⟩, h⟩
  refine ⟨rfl, ?_⟩
  dsimp only [ir_law_results, q_onB, q_onI, q_onS, q_onF, q_onL, q_onD, q_onT, q_onZ, q_onU_none, q_onU_bool, q_onU_int, q_onU_str, q_onU_tup, q_onU_ints, q_onU_strs, q_onU_fdct, q_un_neg, q_un_not, q_un_it0, q_un_it1, q_un_abs, q_un_mxL, q_un_mnL, q_un_one, q_bi_sub, q_bi_mul, q_bi_fdiv, q_bi_mod, q_bi_add, q_bi_lt, q_bi_le, q_bi_gt, q_bi_ge, q_bi_eq, q_bi_ne, q_bi_mx, q_bi_mn, q_cat, q_eq_s, q_eq_b, q_eq_n, q_eq_t, q_ne_s, q_ne_b, q_ne_n, q_ne_t, q_is_n, q_is_t, q_isnot_n, q_isnot_t, q_eqD_i, q_eqD_t, q_froz_n, q_froz_c, q_frz_none, q_frz_bool, q_frz_int, q_frz_str, q_frz_tup, q_frz_ints, q_frz_strs, q_frz_fdct, q_frz_undef, q_frz_dct, q_look_z, q_look_s, q_upd_z, q_upd_s, q_und_z, q_und_s, q_app_n, q_app_c, q_mkL, q_gI_n, q_gI_i, q_gI_s, q_gS_n, q_gS_i, q_toL_n, q_toL_c, q_dget, q_dset_c, q_dset_n, q_cond_t, q_cond_f, q_for_n, q_for_c, q_allI_i, q_allI_s, q_allI_f, q_allN_n, q_allN_c, q_allK_n, q_allK_c, q_it_t, q_it_s, q_unr_n, q_unr_c, q_isD_none, q_isD_bool, q_isD_int, q_isD_str, q_isD_tup, q_isD_ints, q_isD_strs, q_isD_fdct, q_isD_undef, q_isD_dct, q_hasD_n, q_hasD_c, q_flat_none, q_flat_bool, q_flat_int, q_flat_str, q_flat_ints, q_flat_strs, q_flat_tup, q_flat_fdct, q_flat_dnil, q_flat_dcons, q_tor, q_for_b, q_tand, q_fand, q_nt, q_nf, u_done, u_set, u_set2, u_setD, u_setK, u_ifk, u_freeze, u_ret, u_cont, u_ifr, u_forr, u_ford, w_var, w_lit, w_un, w_bi, w_key, w_bo, w_ite, w_tup, w_call, w_lst, w_dict, w_anil, w_acons, ct_0, ct_1, ct_2, ct_3, ct_4, ct_5, ct_6, ct_7, ct_8, ct_9, ct_10, ct_11, ct_12, ct_13, ct_14, ct_15, ct_16, ct_17, ct_18, ct_19, ct_20, ct_21, ct_22, ct_23, ct_24, ct_25, ct_26, ct_27, Nat.reduceBEq, Nat.reduceAdd, List.map, List.contains, List.elem]
  simp only [eq_self, true_and, and_true, decide_eq_true_eq, decide_eq_false_iff_not, Bool.not_true, Bool.not_false, forall_const, reduceCtorEq, false_implies, implies_true]
  refine ⟨⟨nab ha.1 ha.2, nab hb.1 hb.2⟩, by kernel_rfl!, fun p => ⟨_, _, rfl, ⟨ha, p, hb.2⟩, rfl, by kernel_rfl!, _, _, rfl, ⟨ha, p, hb.2⟩, ⟨nab hb.1 hb.2, div_nab p (nab ha.1 ha.2)⟩, rfl, by kernel_rfl!, ?_⟩, fun p => ?_⟩
  · rw [resD, if_pos p] at h; exact h
  · rw [resD, if_neg p] at h; exact h
theorem f_law_results (w : World) (h : FS w 21) : FS w 22 := fs_succ h (show FSpec w 203 (21 + 10) T_law_results from by
  refine' fspec_of (n := 21) ns_law_results 2 1 ir_law_results (tabs w) (by decide) (by decide) h ?ho ?hcd ?hb ?hsc ?hco ?hgen ?hk ?hc ?hT
  case ho => k_is
  case hcd => k_is
  case hb =>
    intro vs hv
    obtain ⟨a0, a1, rfl⟩ := len2 hv
    exact rfl
  case hsc => kernel_rfl!
  case hco => rfl
  case hgen => rfl
  case hk => rfl
  case hc => kernel_rfl!
  case hT => exact v_law_results)

theorem dget_dset {j : Nat} {x : SV} : ∀ {d : SV}, dget (dset d j x) j = x := by
  intro d
  induction d with
  | dcons k y r _ ih =>
    by_cases h : k = j
    · subst h; rw [dset_eq, dget_eq]
    · rw [dset_ne h, dget_ne h, ih]
  | _ => exact dget_eq
theorem dset_dset {j : Nat} {x y : SV} : ∀ {d : SV}, dset (dset d j x) j y = dset d j y := by
  intro d
  induction d with
  | dcons k z r _ ih =>
    by_cases h : k = j
    · subst h; rw [dset_eq, dset_eq, dset_eq]
    · rw [dset_ne h, dset_ne h, dset_ne h, ih]
  | _ => exact dset_eq
theorem atoms_dset {j : Nat} {x : SV} (hx : atom x = true) : ∀ {d : SV}, atoms d = true → atoms (dset d j x) = true := by
  intro d
  induction d with
  | dcons k z r _ ih =>
    intro h
    have h' := and3 (show (atom z && atoms r) = true from h)
    by_cases hk : k = j
    · subst hk; rw [dset_eq]; show (atom x && atoms r) = true; rw [hx, h'.2]; rfl
    · rw [dset_ne hk]; show (atom z && atoms (dset r j x)) = true; rw [h'.1, ih h'.2]; rfl
  | dnil => intro _; show (atom x && true) = true; rw [hx]; rfl
  | _ => intro h; cases h
theorem keys_dset {j : Nat} {x : SV} : ∀ {d : SV} {n : Nat}, (dkeys d).length ≤ n → (dkeys (dset d j x)).length ≤ n + 1 := by
  intro d
  induction d with
  | dcons k z r _ ih =>
    intro n h
    have h : (dkeys r).length + 1 ≤ n := h
    by_cases hk : k = j
    · subst hk; rw [dset_eq]; exact Nat.le_succ_of_le h
    · rw [dset_ne hk]
      cases n with
      | zero => exact absurd h (Nat.not_succ_le_zero _)
      | succ n => exact Nat.succ_le_succ (ih (Nat.le_of_succ_le_succ h))
  | _ => intro n h; exact Nat.succ_le_succ (Nat.zero_le _)
theorem okD_of {ρ : List SV} {i : Nat} {d : SV} (h : hasD (upd ρ i .undef) = false) (k : (dkeys d).length ≤ 64) : okD ρ i d = true := by
  unfold okD; rw [h, decide_eq_true k]; rfl
theorem okA_of {ρ : List SV} {i : Nat} {d : SV} (h : hasD (upd ρ i .undef) = false) (k : (dkeys d).length ≤ 64) (a : atoms d = true) : (okD ρ i d && atoms d) = true := by rw [okD_of h k, a]; rfl
noncomputable def fj : Nat → Int → Int → Int | 6 => fAdd | 7 => fSub | 8 => fMul | 9 => fNeg | _ => fAbs
theorem res_at {a b : Int} {j : Nat} (h0 : 6 ≤ j) (h1 : j ≤ 10) : dget (resD a b) j = .int (fj j a b) := by
  obtain ⟨k, rfl⟩ := Nat.exists_eq_add_of_le h0
  exact lt6 (P := fun k => dget (resD a b) (6 + k) = .int (fj (6 + k) a b) ∨ k = 5) (.inl rfl) (.inl rfl) (.inl rfl) (.inl rfl) (.inl rfl) (.inr rfl) (Nat.lt_of_le_of_lt (Nat.le_of_add_le_add_left h1) (show 4 < 6 by decide)) |>.elim id fun e => absurd h1 (by rw [e]; decide)
noncomputable def ir_trb : IS := .ifk (.un .not (.call 19 (.acons 0 (.key (.call 21 (.acons 0 (.var 4) (.acons 0 (.var 5) .anil))) (.var 3)) .anil))) 2 3 .done
noncomputable def ir_tra : IS := .ford 5 2 [] (.var 1) ir_trb .done
noncomputable def ir_trd : IS := .setK 2 (.var 3) (.lit (.bool false)) (.ford 4 2 [5] (.var 0) ir_tra .done)
section
variable {x0 x1 y0 y1 a b : Int} {d : SV} {j : Nat} {o : Bool} {nx ct : Kn} {rt : SV → Prop}
theorem tr_b (h0 : 6 ≤ j) (h1 : j ≤ 10) (ha : InI a) (hb : InI b) (hd : dget d j = .bool o) (hk : (dkeys d).length ≤ 64) (h : nx [iv x0 x1, iv y0 y1, .dct (dset d j (.bool (!okI (fj j a b) || o))), .str j, .int a, .int b]) :
    wpS CT ir_trb [iv x0 x1, iv y0 y1, .dct d, .str j, .int a, .int b] nx rt ct := by
  dsimp only [ir_trb, q_onB, q_onI, q_onS, q_onF, q_onL, q_onD, q_onT, q_onZ, q_onU_none, q_onU_bool, q_onU_int, q_onU_str, q_onU_tup, q_onU_ints, q_onU_strs, q_onU_fdct, q_un_neg, q_un_not, q_un_it0, q_un_it1, q_un_abs, q_un_mxL, q_un_mnL, q_un_one, q_bi_sub, q_bi_mul, q_bi_fdiv, q_bi_mod, q_bi_add, q_bi_lt, q_bi_le, q_bi_gt, q_bi_ge, q_bi_eq, q_bi_ne, q_bi_mx, q_bi_mn, q_cat, q_eq_s, q_eq_b, q_eq_n, q_eq_t, q_ne_s, q_ne_b, q_ne_n, q_ne_t, q_is_n, q_is_t, q_isnot_n, q_isnot_t, q_eqD_i, q_eqD_t, q_froz_n, q_froz_c, q_frz_none, q_frz_bool, q_frz_int, q_frz_str, q_frz_tup, q_frz_ints, q_frz_strs, q_frz_fdct, q_frz_undef, q_frz_dct, q_look_z, q_look_s, q_upd_z, q_upd_s, q_und_z, q_und_s, q_app_n, q_app_c, q_mkL, q_gI_n, q_gI_i, q_gI_s, q_gS_n, q_gS_i, q_toL_n, q_toL_c, q_dget, q_dset_c, q_dset_n, q_cond_t, q_cond_f, q_for_n, q_for_c, q_allI_i, q_allI_s, q_allI_f, q_allN_n, q_allN_c, q_allK_n, q_allK_c, q_it_t, q_it_s, q_unr_n, q_unr_c, q_isD_none, q_isD_bool, q_isD_int, q_isD_str, q_isD_tup, q_isD_ints, q_isD_strs, q_isD_fdct, q_isD_undef, q_isD_dct, q_hasD_n, q_hasD_c, q_flat_none, q_flat_bool, q_flat_int, q_flat_str, q_flat_ints, q_flat_strs, q_flat_tup, q_flat_fdct, q_flat_dnil, q_flat_dcons, q_tor, q_for_b, q_tand, q_fand, q_nt, q_nf, u_done, u_set, u_set2, u_setD, u_setK, u_ifk, u_freeze, u_ret, u_cont, u_ifr, u_forr, u_ford, w_var, w_lit, w_un, w_bi, w_key, w_bo, w_ite, w_tup, w_call, w_lst, w_dict, w_anil, w_acons, ct_0, ct_1, ct_2, ct_3, ct_4, ct_5, ct_6, ct_7, ct_8, ct_9, ct_10, ct_11, ct_12, ct_13, ct_14, ct_15, ct_16, ct_17, ct_18, ct_19, ct_20, ct_21, ct_22, ct_23, ct_24, ct_25, ct_26, ct_27, Nat.reduceBEq, Nat.reduceAdd, List.map, List.contains, List.elem]
  refine ⟨_, _, rfl, ⟨ha, hb⟩, ?_⟩
  dsimp only [q_onB, q_onI, q_onS, q_onF, q_onL, q_onD, q_onT, q_onZ, q_onU_none, q_onU_bool, q_onU_int, q_onU_str, q_onU_tup, q_onU_ints, q_onU_strs, q_onU_fdct, q_un_neg, q_un_not, q_un_it0, q_un_it1, q_un_abs, q_un_mxL, q_un_mnL, q_un_one, q_bi_sub, q_bi_mul, q_bi_fdiv, q_bi_mod, q_bi_add, q_bi_lt, q_bi_le, q_bi_gt, q_bi_ge, q_bi_eq, q_bi_ne, q_bi_mx, q_bi_mn, q_cat, q_eq_s, q_eq_b, q_eq_n, q_eq_t, q_ne_s, q_ne_b, q_ne_n, q_ne_t, q_is_n, q_is_t, q_isnot_n, q_isnot_t, q_eqD_i, q_eqD_t, q_froz_n, q_froz_c, q_frz_none, q_frz_bool, q_frz_int, q_frz_str, q_frz_tup, q_frz_ints, q_frz_strs, q_frz_fdct, q_frz_undef, q_frz_dct, q_look_z, q_look_s, q_upd_z, q_upd_s, q_und_z, q_und_s, q_app_n, q_app_c, q_mkL, q_gI_n, q_gI_i, q_gI_s, q_gS_n, q_gS_i, q_toL_n, q_toL_c, q_dget, q_dset_c, q_dset_n, q_cond_t, q_cond_f, q_for_n, q_for_c, q_allI_i, q_allI_s, q_allI_f, q_allN_n, q_allN_c, q_allK_n, q_allK_c, q_it_t, q_it_s, q_unr_n, q_unr_c, q_isD_none, q_isD_bool, q_isD_int, q_isD_str, q_isD_tup, q_isD_ints, q_isD_strs, q_isD_fdct, q_isD_undef, q_isD_dct, q_hasD_n, q_hasD_c, q_flat_none, q_flat_bool, q_flat_int, q_flat_str, q_flat_ints, q_flat_strs, q_flat_tup, q_flat_fdct, q_flat_dnil, q_flat_dcons, q_tor, q_for_b, q_tand, q_fand, q_nt, q_nf, u_done, u_set, u_set2, u_setD, u_setK, u_ifk, u_freeze, u_ret, u_cont, u_ifr, u_forr, u_ford, w_var, w_lit, w_un, w_bi, w_key, w_bo, w_ite, w_tup, w_call, w_lst, w_dict, w_anil, w_acons, ct_0, ct_1, ct_2, ct_3, ct_4, ct_5, ct_6, ct_7, ct_8, ct_9, ct_10, ct_11, ct_12, ct_13, ct_14, ct_15, ct_16, ct_17, ct_18, ct_19, ct_20, ct_21, ct_22, ct_23, ct_24, ct_25, ct_26, ct_27, Nat.reduceBEq, Nat.reduceAdd, List.map, List.contains, List.elem]
  rw [res_at h0 h1]
  refine ⟨_, rfl, ?_⟩
  dsimp only [q_onB, q_onI, q_onS, q_onF, q_onL, q_onD, q_onT, q_onZ, q_onU_none, q_onU_bool, q_onU_int, q_onU_str, q_onU_tup, q_onU_ints, q_onU_strs, q_onU_fdct, q_un_neg, q_un_not, q_un_it0, q_un_it1, q_un_abs, q_un_mxL, q_un_mnL, q_un_one, q_bi_sub, q_bi_mul, q_bi_fdiv, q_bi_mod, q_bi_add, q_bi_lt, q_bi_le, q_bi_gt, q_bi_ge, q_bi_eq, q_bi_ne, q_bi_mx, q_bi_mn, q_cat, q_eq_s, q_eq_b, q_eq_n, q_eq_t, q_ne_s, q_ne_b, q_ne_n, q_ne_t, q_is_n, q_is_t, q_isnot_n, q_isnot_t, q_eqD_i, q_eqD_t, q_froz_n, q_froz_c, q_frz_none, q_frz_bool, q_frz_int, q_frz_str, q_frz_tup, q_frz_ints, q_frz_strs, q_frz_fdct, q_frz_undef, q_frz_dct, q_look_z, q_look_s, q_upd_z, q_upd_s, q_und_z, q_und_s, q_app_n, q_app_c, q_mkL, q_gI_n, q_gI_i, q_gI_s, q_gS_n, q_gS_i, q_toL_n, q_toL_c, q_dget, q_dset_c, q_dset_n, q_cond_t, q_cond_f, q_for_n, q_for_c, q_allI_i, q_allI_s, q_allI_f, q_allN_n, q_allN_c, q_allK_n, q_allK_c, q_it_t, q_it_s, q_unr_n, q_unr_c, q_isD_none, q_isD_bool, q_isD_int, q_isD_str, q_isD_tup, q_isD_ints, q_isD_strs, q_isD_fdct, q_isD_undef, q_isD_dct, q_hasD_n, q_hasD_c, q_flat_none, q_flat_bool, q_flat_int, q_flat_str, q_flat_ints, q_flat_strs, q_flat_tup, q_flat_fdct, q_flat_dnil, q_flat_dcons, q_tor, q_for_b, q_tand, q_fand, q_nt, q_nf, u_done, u_set, u_set2, u_setD, u_setK, u_ifk, u_freeze, u_ret, u_cont, u_ifr, u_forr, u_ford, w_var, w_lit, w_un, w_bi, w_key, w_bo, w_ite, w_tup, w_call, w_lst, w_dict, w_anil, w_acons, ct_0, ct_1, ct_2, ct_3, ct_4, ct_5, ct_6, ct_7, ct_8, ct_9, ct_10, ct_11, ct_12, ct_13, ct_14, ct_15, ct_16, ct_17, ct_18, ct_19, ct_20, ct_21, ct_22, ct_23, ct_24, ct_25, ct_26, ct_27, Nat.reduceBEq, Nat.reduceAdd, List.map, List.contains, List.elem]
  rw [hd]
  exact ⟨okD_of rfl hk, h⟩
theorem tr_a (h0 : 6 ≤ j) (h1 : j ≤ 10) (ha : InI a) (hy0 : InI y0) (hy1 : InI y1) (hd : dget d j = .bool o) (hk : (dkeys d).length ≤ 60) (hat : atoms d = true) (h : nx [iv x0 x1, iv y0 y1, .dct (dset d j (.bool (!okI (fj j a y1) || (!okI (fj j a y0) || o)))), .str j, .int a, .undef]) :
    wpS CT ir_tra [iv x0 x1, iv y0 y1, .dct d, .str j, .int a, .undef] nx rt ct := by
  dsimp only [ir_tra, q_onB, q_onI, q_onS, q_onF, q_onL, q_onD, q_onT, q_onZ, q_onU_none, q_onU_bool, q_onU_int, q_onU_str, q_onU_tup, q_onU_ints, q_onU_strs, q_onU_fdct, q_un_neg, q_un_not, q_un_it0, q_un_it1, q_un_abs, q_un_mxL, q_un_mnL, q_un_one, q_bi_sub, q_bi_mul, q_bi_fdiv, q_bi_mod, q_bi_add, q_bi_lt, q_bi_le, q_bi_gt, q_bi_ge, q_bi_eq, q_bi_ne, q_bi_mx, q_bi_mn, q_cat, q_eq_s, q_eq_b, q_eq_n, q_eq_t, q_ne_s, q_ne_b, q_ne_n, q_ne_t, q_is_n, q_is_t, q_isnot_n, q_isnot_t, q_eqD_i, q_eqD_t, q_froz_n, q_froz_c, q_frz_none, q_frz_bool, q_frz_int, q_frz_str, q_frz_tup, q_frz_ints, q_frz_strs, q_frz_fdct, q_frz_undef, q_frz_dct, q_look_z, q_look_s, q_upd_z, q_upd_s, q_und_z, q_und_s, q_app_n, q_app_c, q_mkL, q_gI_n, q_gI_i, q_gI_s, q_gS_n, q_gS_i, q_toL_n, q_toL_c, q_dget, q_dset_c, q_dset_n, q_cond_t, q_cond_f, q_for_n, q_for_c, q_allI_i, q_allI_s, q_allI_f, q_allN_n, q_allN_c, q_allK_n, q_allK_c, q_it_t, q_it_s, q_unr_n, q_unr_c, q_isD_none, q_isD_bool, q_isD_int, q_isD_str, q_isD_tup, q_isD_ints, q_isD_strs, q_isD_fdct, q_isD_undef, q_isD_dct, q_hasD_n, q_hasD_c, q_flat_none, q_flat_bool, q_flat_int, q_flat_str, q_flat_ints, q_flat_strs, q_flat_tup, q_flat_fdct, q_flat_dnil, q_flat_dcons, q_tor, q_for_b, q_tand, q_fand, q_nt, q_nf, u_done, u_set, u_set2, u_setD, u_setK, u_ifk, u_freeze, u_ret, u_cont, u_ifr, u_forr, u_ford, w_var, w_lit, w_un, w_bi, w_key, w_bo, w_ite, w_tup, w_call, w_lst, w_dict, w_anil, w_acons, ct_0, ct_1, ct_2, ct_3, ct_4, ct_5, ct_6, ct_7, ct_8, ct_9, ct_10, ct_11, ct_12, ct_13, ct_14, ct_15, ct_16, ct_17, ct_18, ct_19, ct_20, ct_21, ct_22, ct_23, ct_24, ct_25, ct_26, ct_27, Nat.reduceBEq, Nat.reduceAdd, List.map, List.contains, List.elem]
  refine ⟨rfl, okA_of rfl (Nat.le_trans hk (by decide)) hat, tr_b h0 h1 ha hy0 hd (Nat.le_trans hk (by decide)) ?_⟩
  dsimp only [q_onB, q_onI, q_onS, q_onF, q_onL, q_onD, q_onT, q_onZ, q_onU_none, q_onU_bool, q_onU_int, q_onU_str, q_onU_tup, q_onU_ints, q_onU_strs, q_onU_fdct, q_un_neg, q_un_not, q_un_it0, q_un_it1, q_un_abs, q_un_mxL, q_un_mnL, q_un_one, q_bi_sub, q_bi_mul, q_bi_fdiv, q_bi_mod, q_bi_add, q_bi_lt, q_bi_le, q_bi_gt, q_bi_ge, q_bi_eq, q_bi_ne, q_bi_mx, q_bi_mn, q_cat, q_eq_s, q_eq_b, q_eq_n, q_eq_t, q_ne_s, q_ne_b, q_ne_n, q_ne_t, q_is_n, q_is_t, q_isnot_n, q_isnot_t, q_eqD_i, q_eqD_t, q_froz_n, q_froz_c, q_frz_none, q_frz_bool, q_frz_int, q_frz_str, q_frz_tup, q_frz_ints, q_frz_strs, q_frz_fdct, q_frz_undef, q_frz_dct, q_look_z, q_look_s, q_upd_z, q_upd_s, q_und_z, q_und_s, q_app_n, q_app_c, q_mkL, q_gI_n, q_gI_i, q_gI_s, q_gS_n, q_gS_i, q_toL_n, q_toL_c, q_dget, q_dset_c, q_dset_n, q_cond_t, q_cond_f, q_for_n, q_for_c, q_allI_i, q_allI_s, q_allI_f, q_allN_n, q_allN_c, q_allK_n, q_allK_c, q_it_t, q_it_s, q_unr_n, q_unr_c, q_isD_none, q_isD_bool, q_isD_int, q_isD_str, q_isD_tup, q_isD_ints, q_isD_strs, q_isD_fdct, q_isD_undef, q_isD_dct, q_hasD_n, q_hasD_c, q_flat_none, q_flat_bool, q_flat_int, q_flat_str, q_flat_ints, q_flat_strs, q_flat_tup, q_flat_fdct, q_flat_dnil, q_flat_dcons, q_tor, q_for_b, q_tand, q_fand, q_nt, q_nf, u_done, u_set, u_set2, u_setD, u_setK, u_ifk, u_freeze, u_ret, u_cont, u_ifr, u_forr, u_ford, w_var, w_lit, w_un, w_bi, w_key, w_bo, w_ite, w_tup, w_call, w_lst, w_dict, w_anil, w_acons, ct_0, ct_1, ct_2, ct_3, ct_4, ct_5, ct_6, ct_7, ct_8, ct_9, ct_10, ct_11, ct_12, ct_13, ct_14, ct_15, ct_16, ct_17, ct_18, ct_19, ct_20, ct_21, ct_22, ct_23, ct_24, ct_25, ct_26, ct_27, Nat.reduceBEq, Nat.reduceAdd, List.map, List.contains, List.elem]
  refine ⟨atoms_dset rfl hat, tr_b h0 h1 ha hy1 dget_dset (Nat.le_trans (keys_dset hk) (by decide)) ?_⟩
  dsimp only [q_onB, q_onI, q_onS, q_onF, q_onL, q_onD, q_onT, q_onZ, q_onU_none, q_onU_bool, q_onU_int, q_onU_str, q_onU_tup, q_onU_ints, q_onU_strs, q_onU_fdct, q_un_neg, q_un_not, q_un_it0, q_un_it1, q_un_abs, q_un_mxL, q_un_mnL, q_un_one, q_bi_sub, q_bi_mul, q_bi_fdiv, q_bi_mod, q_bi_add, q_bi_lt, q_bi_le, q_bi_gt, q_bi_ge, q_bi_eq, q_bi_ne, q_bi_mx, q_bi_mn, q_cat, q_eq_s, q_eq_b, q_eq_n, q_eq_t, q_ne_s, q_ne_b, q_ne_n, q_ne_t, q_is_n, q_is_t, q_isnot_n, q_isnot_t, q_eqD_i, q_eqD_t, q_froz_n, q_froz_c, q_frz_none, q_frz_bool, q_frz_int, q_frz_str, q_frz_tup, q_frz_ints, q_frz_strs, q_frz_fdct, q_frz_undef, q_frz_dct, q_look_z, q_look_s, q_upd_z, q_upd_s, q_und_z, q_und_s, q_app_n, q_app_c, q_mkL, q_gI_n, q_gI_i, q_gI_s, q_gS_n, q_gS_i, q_toL_n, q_toL_c, q_dget, q_dset_c, q_dset_n, q_cond_t, q_cond_f, q_for_n, q_for_c, q_allI_i, q_allI_s, q_allI_f, q_allN_n, q_allN_c, q_allK_n, q_allK_c, q_it_t, q_it_s, q_unr_n, q_unr_c, q_isD_none, q_isD_bool, q_isD_int, q_isD_str, q_isD_tup, q_isD_ints, q_isD_strs, q_isD_fdct, q_isD_undef, q_isD_dct, q_hasD_n, q_hasD_c, q_flat_none, q_flat_bool, q_flat_int, q_flat_str, q_flat_ints, q_flat_strs, q_flat_tup, q_flat_fdct, q_flat_dnil, q_flat_dcons, q_tor, q_for_b, q_tand, q_fand, q_nt, q_nf, u_done, u_set, u_set2, u_setD, u_setK, u_ifk, u_freeze, u_ret, u_cont, u_ifr, u_forr, u_ford, w_var, w_lit, w_un, w_bi, w_key, w_bo, w_ite, w_tup, w_call, w_lst, w_dict, w_anil, w_acons, ct_0, ct_1, ct_2, ct_3, ct_4, ct_5, ct_6, ct_7, ct_8, ct_9, ct_10, ct_11, ct_12, ct_13, ct_14, ct_15, ct_16, ct_17, ct_18, ct_19, ct_20, ct_21, ct_22, ct_23, ct_24, ct_25, ct_26, ct_27, Nat.reduceBEq, Nat.reduceAdd, List.map, List.contains, List.elem]
  rw [dset_dset]
  exact ⟨atoms_dset rfl hat, h⟩
theorem tr_d (h0 : 6 ≤ j) (h1 : j ≤ 10) (hx0 : InI x0) (hx1 : InI x1) (hy0 : InI y0) (hy1 : InI y1) (hk : (dkeys d).length ≤ 50) (hat : atoms d = true) (h : nx [iv x0 x1, iv y0 y1, .dct (dset d j (.bool (trB (fj j) x0 x1 y0 y1))), .str j, .undef, .undef]) :
    wpS CT ir_trd [iv x0 x1, iv y0 y1, .dct d, .str j, .undef, .undef] nx rt ct := by
  have e1 : ∀ x, (dkeys (dset d j x)).length ≤ 51 := fun x => keys_dset hk
  dsimp only [ir_trd, q_onB, q_onI, q_onS, q_onF, q_onL, q_onD, q_onT, q_onZ, q_onU_none, q_onU_bool, q_onU_int, q_onU_str, q_onU_tup, q_onU_ints, q_onU_strs, q_onU_fdct, q_un_neg, q_un_not, q_un_it0, q_un_it1, q_un_abs, q_un_mxL, q_un_mnL, q_un_one, q_bi_sub, q_bi_mul, q_bi_fdiv, q_bi_mod, q_bi_add, q_bi_lt, q_bi_le, q_bi_gt, q_bi_ge, q_bi_eq, q_bi_ne, q_bi_mx, q_bi_mn, q_cat, q_eq_s, q_eq_b, q_eq_n, q_eq_t, q_ne_s, q_ne_b, q_ne_n, q_ne_t, q_is_n, q_is_t, q_isnot_n, q_isnot_t, q_eqD_i, q_eqD_t, q_froz_n, q_froz_c, q_frz_none, q_frz_bool, q_frz_int, q_frz_str, q_frz_tup, q_frz_ints, q_frz_strs, q_frz_fdct, q_frz_undef, q_frz_dct, q_look_z, q_look_s, q_upd_z, q_upd_s, q_und_z, q_und_s, q_app_n, q_app_c, q_mkL, q_gI_n, q_gI_i, q_gI_s, q_gS_n, q_gS_i, q_toL_n, q_toL_c, q_dget, q_dset_c, q_dset_n, q_cond_t, q_cond_f, q_for_n, q_for_c, q_allI_i, q_allI_s, q_allI_f, q_allN_n, q_allN_c, q_allK_n, q_allK_c, q_it_t, q_it_s, q_unr_n, q_unr_c, q_isD_none, q_isD_bool, q_isD_int, q_isD_str, q_isD_tup, q_isD_ints, q_isD_strs, q_isD_fdct, q_isD_undef, q_isD_dct, q_hasD_n, q_hasD_c, q_flat_none, q_flat_bool, q_flat_int, q_flat_str, q_flat_ints, q_flat_strs, q_flat_tup, q_flat_fdct, q_flat_dnil, q_flat_dcons, q_tor, q_for_b, q_tand, q_fand, q_nt, q_nf, u_done, u_set, u_set2, u_setD, u_setK, u_ifk, u_freeze, u_ret, u_cont, u_ifr, u_forr, u_ford, w_var, w_lit, w_un, w_bi, w_key, w_bo, w_ite, w_tup, w_call, w_lst, w_dict, w_anil, w_acons, ct_0, ct_1, ct_2, ct_3, ct_4, ct_5, ct_6, ct_7, ct_8, ct_9, ct_10, ct_11, ct_12, ct_13, ct_14, ct_15, ct_16, ct_17, ct_18, ct_19, ct_20, ct_21, ct_22, ct_23, ct_24, ct_25, ct_26, ct_27, Nat.reduceBEq, Nat.reduceAdd, List.map, List.contains, List.elem]
  refine ⟨rfl, okD_of rfl (Nat.le_trans hk (by decide)), rfl, okA_of rfl (Nat.le_trans (e1 _) (by decide)) (atoms_dset rfl hat), tr_a h0 h1 hx0 hy0 hy1 dget_dset (Nat.le_trans (e1 _) (by decide)) (atoms_dset rfl hat) ?_⟩
  dsimp only [q_onB, q_onI, q_onS, q_onF, q_onL, q_onD, q_onT, q_onZ, q_onU_none, q_onU_bool, q_onU_int, q_onU_str, q_onU_tup, q_onU_ints, q_onU_strs, q_onU_fdct, q_un_neg, q_un_not, q_un_it0, q_un_it1, q_un_abs, q_un_mxL, q_un_mnL, q_un_one, q_bi_sub, q_bi_mul, q_bi_fdiv, q_bi_mod, q_bi_add, q_bi_lt, q_bi_le, q_bi_gt, q_bi_ge, q_bi_eq, q_bi_ne, q_bi_mx, q_bi_mn, q_cat, q_eq_s, q_eq_b, q_eq_n, q_eq_t, q_ne_s, q_ne_b, q_ne_n, q_ne_t, q_is_n, q_is_t, q_isnot_n, q_isnot_t, q_eqD_i, q_eqD_t, q_froz_n, q_froz_c, q_frz_none, q_frz_bool, q_frz_int, q_frz_str, q_frz_tup, q_frz_ints, q_frz_strs, q_frz_fdct, q_frz_undef, q_frz_dct, q_look_z, q_look_s, q_upd_z, q_upd_s, q_und_z, q_und_s, q_app_n, q_app_c, q_mkL, q_gI_n, q_gI_i, q_gI_s, q_gS_n, q_gS_i, q_toL_n, q_toL_c, q_dget, q_dset_c, q_dset_n, q_cond_t, q_cond_f, q_for_n, q_for_c, q_allI_i, q_allI_s, q_allI_f, q_allN_n, q_allN_c, q_allK_n, q_allK_c, q_it_t, q_it_s, q_unr_n, q_unr_c, q_isD_none, q_isD_bool, q_isD_int, q_isD_str, q_isD_tup, q_isD_ints, q_isD_strs, q_isD_fdct, q_isD_undef, q_isD_dct, q_hasD_n, q_hasD_c, q_flat_none, q_flat_bool, q_flat_int, q_flat_str, q_flat_ints, q_flat_strs, q_flat_tup, q_flat_fdct, q_flat_dnil, q_flat_dcons, q_tor, q_for_b, q_tand, q_fand, q_nt, q_nf, u_done, u_set, u_set2, u_setD, u_setK, u_ifk, u_freeze, u_ret, u_cont, u_ifr, u_forr, u_ford, w_var, w_lit, w_un, w_bi, w_key, w_bo, w_ite, w_tup, w_call, w_lst, w_dict, w_anil, w_acons, ct_0, ct_1, ct_2, ct_3, ct_4, ct_5, ct_6, ct_7, ct_8, ct_9, ct_10, ct_11, ct_12, ct_13, ct_14, ct_15, ct_16, ct_17, ct_18, ct_19, ct_20, ct_21, ct_22, ct_23, ct_24, ct_25, ct_26, ct_27, Nat.reduceBEq, Nat.reduceAdd, List.map, List.contains, List.elem]
  rw [dset_dset]
  refine ⟨atoms_dset rfl hat, tr_a h0 h1 hx1 hy0 hy1 dget_dset (Nat.le_trans (e1 _) (by decide)) (atoms_dset rfl hat) ?_⟩
  dsimp only [q_onB, q_onI, q_onS, q_onF, q_onL, q_onD, q_onT, q_onZ, q_onU_none, q_onU_bool, q_onU_int, q_onU_str, q_onU_tup, q_onU_ints, q_onU_strs, q_onU_fdct, q_un_neg, q_un_not, q_un_it0, q_un_it1, q_un_abs, q_un_mxL, q_un_mnL, q_un_one, q_bi_sub, q_bi_mul, q_bi_fdiv, q_bi_mod, q_bi_add, q_bi_lt, q_bi_le, q_bi_gt, q_bi_ge, q_bi_eq, q_bi_ne, q_bi_mx, q_bi_mn, q_cat, q_eq_s, q_eq_b, q_eq_n, q_eq_t, q_ne_s, q_ne_b, q_ne_n, q_ne_t, q_is_n, q_is_t, q_isnot_n, q_isnot_t, q_eqD_i, q_eqD_t, q_froz_n, q_froz_c, q_frz_none, q_frz_bool, q_frz_int, q_frz_str, q_frz_tup, q_frz_ints, q_frz_strs, q_frz_fdct, q_frz_undef, q_frz_dct, q_look_z, q_look_s, q_upd_z, q_upd_s, q_und_z, q_und_s, q_app_n, q_app_c, q_mkL, q_gI_n, q_gI_i, q_gI_s, q_gS_n, q_gS_i, q_toL_n, q_toL_c, q_dget, q_dset_c, q_dset_n, q_cond_t, q_cond_f, q_for_n, q_for_c, q_allI_i, q_allI_s, q_allI_f, q_allN_n, q_allN_c, q_allK_n, q_allK_c, q_it_t, q_it_s, q_unr_n, q_unr_c, q_isD_none, q_isD_bool, q_isD_int, q_isD_str, q_isD_tup, q_isD_ints, q_isD_strs, q_isD_fdct, q_isD_undef, q_isD_dct, q_hasD_n, q_hasD_c, q_flat_none, q_flat_bool, q_flat_int, q_flat_str, q_flat_ints, q_flat_strs, q_flat_tup, q_flat_fdct, q_flat_dnil, q_flat_dcons, q_tor, q_for_b, q_tand, q_fand, q_nt, q_nf, u_done, u_set, u_set2, u_setD, u_setK, u_ifk, u_freeze, u_ret, u_cont, u_ifr, u_forr, u_ford, w_var, w_lit, w_un, w_bi, w_key, w_bo, w_ite, w_tup, w_call, w_lst, w_dict, w_anil, w_acons, ct_0, ct_1, ct_2, ct_3, ct_4, ct_5, ct_6, ct_7, ct_8, ct_9, ct_10, ct_11, ct_12, ct_13, ct_14, ct_15, ct_16, ct_17, ct_18, ct_19, ct_20, ct_21, ct_22, ct_23, ct_24, ct_25, ct_26, ct_27, Nat.reduceBEq, Nat.reduceAdd, List.map, List.contains, List.elem]
  rw [dset_dset]
  exact ⟨atoms_dset rfl hat, h⟩
end
theorem v_law_traps : ∀ (args : List SV) (K : SV → Prop), T_law_traps args K → args.length = 2 ∧ wpS CT ir_law_traps (args ++ undefs 4) (fun _ => K .none) K (fun _ => False) := by
  rintro args K ⟨x0, x1, y0, y1, rfl, ⟨⟨hx, h0, h1⟩, ⟨hy, h2, h3⟩⟩, h⟩
  have i0 : InI x0 := ⟨h0, Int.le_trans hx h1⟩
  have i1 : InI x1 := ⟨Int.le_trans h0 hx, h1⟩
  have j0 : InI y0 := ⟨h2, Int.le_trans hy h3⟩
  have j1 : InI y1 := ⟨Int.le_trans h2 hy, h3⟩
  refine ⟨rfl, ?_⟩
  show wpS CT (.setD 2 (.acons 11 (.bi .lt (.un .it0 (.var 1)) (.lit (.int 1))) (.acons 12 (.bi .lt (.un .it0 (.var 1)) (.lit (.int 1))) .anil)) (.ford 3 2 [4, 5] (.lst (.acons 0 (.lit (.str 6)) (.acons 0 (.lit (.str 7)) (.acons 0 (.lit (.str 8)) (.acons 0 (.lit (.str 9)) (.acons 0 (.lit (.str 10)) .anil)))))) ir_trd (.ret (.var 2)))) _ _ _ _
  dsimp only [q_onB, q_onI, q_onS, q_onF, q_onL, q_onD, q_onT, q_onZ, q_onU_none, q_onU_bool, q_onU_int, q_onU_str, q_onU_tup, q_onU_ints, q_onU_strs, q_onU_fdct, q_un_neg, q_un_not, q_un_it0, q_un_it1, q_un_abs, q_un_mxL, q_un_mnL, q_un_one, q_bi_sub, q_bi_mul, q_bi_fdiv, q_bi_mod, q_bi_add, q_bi_lt, q_bi_le, q_bi_gt, q_bi_ge, q_bi_eq, q_bi_ne, q_bi_mx, q_bi_mn, q_cat, q_eq_s, q_eq_b, q_eq_n, q_eq_t, q_ne_s, q_ne_b, q_ne_n, q_ne_t, q_is_n, q_is_t, q_isnot_n, q_isnot_t, q_eqD_i, q_eqD_t, q_froz_n, q_froz_c, q_frz_none, q_frz_bool, q_frz_int, q_frz_str, q_frz_tup, q_frz_ints, q_frz_strs, q_frz_fdct, q_frz_undef, q_frz_dct, q_look_z, q_look_s, q_upd_z, q_upd_s, q_und_z, q_und_s, q_app_n, q_app_c, q_mkL, q_gI_n, q_gI_i, q_gI_s, q_gS_n, q_gS_i, q_toL_n, q_toL_c, q_dget, q_dset_c, q_dset_n, q_cond_t, q_cond_f, q_for_n, q_for_c, q_allI_i, q_allI_s, q_allI_f, q_allN_n, q_allN_c, q_allK_n, q_allK_c, q_it_t, q_it_s, q_unr_n, q_unr_c, q_isD_none, q_isD_bool, q_isD_int, q_isD_str, q_isD_tup, q_isD_ints, q_isD_strs, q_isD_fdct, q_isD_undef, q_isD_dct, q_hasD_n, q_hasD_c, q_flat_none, q_flat_bool, q_flat_int, q_flat_str, q_flat_ints, q_flat_strs, q_flat_tup, q_flat_fdct, q_flat_dnil, q_flat_dcons, q_tor, q_for_b, q_tand, q_fand, q_nt, q_nf, u_done, u_set, u_set2, u_setD, u_setK, u_ifk, u_freeze, u_ret, u_cont, u_ifr, u_forr, u_ford, w_var, w_lit, w_un, w_bi, w_key, w_bo, w_ite, w_tup, w_call, w_lst, w_dict, w_anil, w_acons, ct_0, ct_1, ct_2, ct_3, ct_4, ct_5, ct_6, ct_7, ct_8, ct_9, ct_10, ct_11, ct_12, ct_13, ct_14, ct_15, ct_16, ct_17, ct_18, ct_19, ct_20, ct_21, ct_22, ct_23, ct_24, ct_25, ct_26, ct_27, Nat.reduceBEq, Nat.reduceAdd, List.map, List.contains, List.elem]
  refine ⟨rfl, by kernel_rfl!, rfl, tr_d (by decide) (by decide) i0 i1 j0 j1 (Nat.le_of_ble_eq_true rfl) rfl ?_⟩
  dsimp only [q_onB, q_onI, q_onS, q_onF, q_onL, q_onD, q_onT, q_onZ, q_onU_none, q_onU_bool, q_onU_int, q_onU_str, q_onU_tup, q_onU_ints, q_onU_strs, q_onU_fdct, q_un_neg, q_un_not, q_un_it0, q_un_it1, q_un_abs, q_un_mxL, q_un_mnL, q_un_one, q_bi_sub, q_bi_mul, q_bi_fdiv, q_bi_mod, q_bi_add, q_bi_lt, q_bi_le, q_bi_gt, q_bi_ge, q_bi_eq, q_bi_ne, q_bi_mx, q_bi_mn, q_cat, q_eq_s, q_eq_b, q_eq_n, q_eq_t, q_ne_s, q_ne_b, q_ne_n, q_ne_t, q_is_n, q_is_t, q_isnot_n, q_isnot_t, q_eqD_i, q_eqD_t, q_froz_n, q_froz_c, q_frz_none, q_frz_bool, q_frz_int, q_frz_str, q_frz_tup, q_frz_ints, q_frz_strs, q_frz_fdct, q_frz_undef, q_frz_dct, q_look_z, q_look_s, q_upd_z, q_upd_s, q_und_z, q_und_s, q_app_n, q_app_c, q_mkL, q_gI_n, q_gI_i, q_gI_s, q_gS_n, q_gS_i, q_toL_n, q_toL_c, q_dget, q_dset_c, q_dset_n, q_cond_t, q_cond_f, q_for_n, q_for_c, q_allI_i, q_allI_s, q_allI_f, q_allN_n, q_allN_c, q_allK_n, q_allK_c, q_it_t, q_it_s, q_unr_n, q_unr_c, q_isD_none, q_isD_bool, q_isD_int, q_isD_str, q_isD_tup, q_isD_ints, q_isD_strs, q_isD_fdct, q_isD_undef, q_isD_dct, q_hasD_n, q_hasD_c, q_flat_none, q_flat_bool, q_flat_int, q_flat_str, q_flat_ints, q_flat_strs, q_flat_tup, q_flat_fdct, q_flat_dnil, q_flat_dcons, q_tor, q_for_b, q_tand, q_fand, q_nt, q_nf, u_done, u_set, u_set2, u_setD, u_setK, u_ifk, u_freeze, u_ret, u_cont, u_ifr, u_forr, u_ford, w_var, w_lit, w_un, w_bi, w_key, w_bo, w_ite, w_tup, w_call, w_lst, w_dict, w_anil, w_acons, ct_0, ct_1, ct_2, ct_3, ct_4, ct_5, ct_6, ct_7, ct_8, ct_9, ct_10, ct_11, ct_12, ct_13, ct_14, ct_15, ct_16, ct_17, ct_18, ct_19, ct_20, ct_21, ct_22, ct_23, ct_24, ct_25, ct_26, ct_27, Nat.reduceBEq, Nat.reduceAdd, List.map, List.contains, List.elem]
  refine ⟨rfl, tr_d (by decide) (by decide) i0 i1 j0 j1 (Nat.le_of_ble_eq_true rfl) rfl ?_⟩
  dsimp only [q_onB, q_onI, q_onS, q_onF, q_onL, q_onD, q_onT, q_onZ, q_onU_none, q_onU_bool, q_onU_int, q_onU_str, q_onU_tup, q_onU_ints, q_onU_strs, q_onU_fdct, q_un_neg, q_un_not, q_un_it0, q_un_it1, q_un_abs, q_un_mxL, q_un_mnL, q_un_one, q_bi_sub, q_bi_mul, q_bi_fdiv, q_bi_mod, q_bi_add, q_bi_lt, q_bi_le, q_bi_gt, q_bi_ge, q_bi_eq, q_bi_ne, q_bi_mx, q_bi_mn, q_cat, q_eq_s, q_eq_b, q_eq_n, q_eq_t, q_ne_s, q_ne_b, q_ne_n, q_ne_t, q_is_n, q_is_t, q_isnot_n, q_isnot_t, q_eqD_i, q_eqD_t, q_froz_n, q_froz_c, q_frz_none, q_frz_bool, q_frz_int, q_frz_str, q_frz_tup, q_frz_ints, q_frz_strs, q_frz_fdct, q_frz_undef, q_frz_dct, q_look_z, q_look_s, q_upd_z, q_upd_s, q_und_z, q_und_s, q_app_n, q_app_c, q_mkL, q_gI_n, q_gI_i, q_gI_s, q_gS_n, q_gS_i, q_toL_n, q_toL_c, q_dget, q_dset_c, q_dset_n, q_cond_t, q_cond_f, q_for_n, q_for_c, q_allI_i, q_allI_s, q_allI_f, q_allN_n, q_allN_c, q_allK_n, q_allK_c, q_it_t, q_it_s, q_unr_n, q_unr_c, q_isD_none, q_isD_bool, q_isD_int, q_isD_str, q_isD_tup, q_isD_ints, q_isD_strs, q_isD_fdct, q_isD_undef, q_isD_dct, q_hasD_n, q_hasD_c, q_flat_none, q_flat_bool, q_flat_int, q_flat_str, q_flat_ints, q_flat_strs, q_flat_tup, q_flat_fdct, q_flat_dnil, q_flat_dcons, q_tor, q_for_b, q_tand, q_fand, q_nt, q_nf, u_done, u_set, u_set2, u_setD, u_setK, u_ifk, u_freeze, u_ret, u_cont, u_ifr, u_forr, u_ford, w_var, w_lit, w_un, w_bi, w_key, w_bo, w_ite, w_tup, w_call, w_lst, w_dict, w_anil, w_acons, ct_0, ct_1, ct_2, ct_3, ct_4, ct_5, ct_6, ct_7, ct_8, ct_9, ct_10, ct_11, ct_12, ct_13, ct_14, ct_15, ct_16, ct_17, ct_18, ct_19, ct_20, ct_21, ct_22, ct_23, ct_24, ct_25, ct_26, ct_27, Nat.reduceBEq, Nat.reduceAdd, List.map, List.contains, List.elem]
  refine ⟨rfl, tr_d (by decide) (by decide) i0 i1 j0 j1 (Nat.le_of_ble_eq_true rfl) rfl ?_⟩
  dsimp only [q_onB, q_onI, q_onS, q_onF, q_onL, q_onD, q_onT, q_onZ, q_onU_none, q_onU_bool, q_onU_int, q_onU_str, q_onU_tup, q_onU_ints, q_onU_strs, q_onU_fdct, q_un_neg, q_un_not, q_un_it0, q_un_it1, q_un_abs, q_un_mxL, q_un_mnL, q_un_one, q_bi_sub, q_bi_mul, q_bi_fdiv, q_bi_mod, q_bi_add, q_bi_lt, q_bi_le, q_bi_gt, q_bi_ge, q_bi_eq, q_bi_ne, q_bi_mx, q_bi_mn, q_cat, q_eq_s, q_eq_b, q_eq_n, q_eq_t, q_ne_s, q_ne_b, q_ne_n, q_ne_t, q_is_n, q_is_t, q_isnot_n, q_isnot_t, q_eqD_i, q_eqD_t, q_froz_n, q_froz_c, q_frz_none, q_frz_bool, q_frz_int, q_frz_str, q_frz_tup, q_frz_ints, q_frz_strs, q_frz_fdct, q_frz_undef, q_frz_dct, q_look_z, q_look_s, q_upd_z, q_upd_s, q_und_z, q_und_s, q_app_n, q_app_c, q_mkL, q_gI_n, q_gI_i, q_gI_s, q_gS_n, q_gS_i, q_toL_n, q_toL_c, q_dget, q_dset_c, q_dset_n, q_cond_t, q_cond_f, q_for_n, q_for_c, q_allI_i, q_allI_s, q_allI_f, q_allN_n, q_allN_c, q_allK_n, q_allK_c, q_it_t, q_it_s, q_unr_n, q_unr_c, q_isD_none, q_isD_bool, q_isD_int, q_isD_str, q_isD_tup, q_isD_ints, q_isD_strs, q_isD_fdct, q_isD_undef, q_isD_dct, q_hasD_n, q_hasD_c, q_flat_none, q_flat_bool, q_flat_int, q_flat_str, q_flat_ints, q_flat_strs, q_flat_tup, q_flat_fdct, q_flat_dnil, q_flat_dcons, q_tor, q_for_b, q_tand, q_fand, q_nt, q_nf, u_done, u_set, u_set2, u_setD, u_setK, u_ifk, u_freeze, u_ret, u_cont, u_ifr, u_forr, u_ford, w_var, w_lit, w_un, w_bi, w_key, w_bo, w_ite, w_tup, w_call, w_lst, w_dict, w_anil, w_acons, ct_0, ct_1, ct_2, ct_3, ct_4, ct_5, ct_6, ct_7, ct_8, ct_9, ct_10, ct_11, ct_12, ct_13, ct_14, ct_15, ct_16, ct_17, ct_18, ct_19, ct_20, ct_21, ct_22, ct_23, ct_24, ct_25, ct_26, ct_27, Nat.reduceBEq, Nat.reduceAdd, List.map, List.contains, List.elem]
  refine ⟨rfl, tr_d (by decide) (by decide) i0 i1 j0 j1 (Nat.le_of_ble_eq_true rfl) rfl ?_⟩
  dsimp only [q_onB, q_onI, q_onS, q_onF, q_onL, q_onD, q_onT, q_onZ, q_onU_none, q_onU_bool, q_onU_int, q_onU_str, q_onU_tup, q_onU_ints, q_onU_strs, q_onU_fdct, q_un_neg, q_un_not, q_un_it0, q_un_it1, q_un_abs, q_un_mxL, q_un_mnL, q_un_one, q_bi_sub, q_bi_mul, q_bi_fdiv, q_bi_mod, q_bi_add, q_bi_lt, q_bi_le, q_bi_gt, q_bi_ge, q_bi_eq, q_bi_ne, q_bi_mx, q_bi_mn, q_cat, q_eq_s, q_eq_b, q_eq_n, q_eq_t, q_ne_s, q_ne_b, q_ne_n, q_ne_t, q_is_n, q_is_t, q_isnot_n, q_isnot_t, q_eqD_i, q_eqD_t, q_froz_n, q_froz_c, q_frz_none, q_frz_bool, q_frz_int, q_frz_str, q_frz_tup, q_frz_ints, q_frz_strs, q_frz_fdct, q_frz_undef, q_frz_dct, q_look_z, q_look_s, q_upd_z, q_upd_s, q_und_z, q_und_s, q_app_n, q_app_c, q_mkL, q_gI_n, q_gI_i, q_gI_s, q_gS_n, q_gS_i, q_toL_n, q_toL_c, q_dget, q_dset_c, q_dset_n, q_cond_t, q_cond_f, q_for_n, q_for_c, q_allI_i, q_allI_s, q_allI_f, q_allN_n, q_allN_c, q_allK_n, q_allK_c, q_it_t, q_it_s, q_unr_n, q_unr_c, q_isD_none, q_isD_bool, q_isD_int, q_isD_str, q_isD_tup, q_isD_ints, q_isD_strs, q_isD_fdct, q_isD_undef, q_isD_dct, q_hasD_n, q_hasD_c, q_flat_none, q_flat_bool, q_flat_int, q_flat_str, q_flat_ints, q_flat_strs, q_flat_tup, q_flat_fdct, q_flat_dnil, q_flat_dcons, q_tor, q_for_b, q_tand, q_fand, q_nt, q_nf, u_done, u_set, u_set2, u_setD, u_setK, u_ifk, u_freeze, u_ret, u_cont, u_ifr, u_forr, u_ford, w_var, w_lit, w_un, w_bi, w_key, w_bo, w_ite, w_tup, w_call, w_lst, w_dict, w_anil, w_acons, ct_0, ct_1, ct_2, ct_3, ct_4, ct_5, ct_6, ct_7, ct_8, ct_9, ct_10, ct_11, ct_12, ct_13, ct_14, ct_15, ct_16, ct_17, ct_18, ct_19, ct_20, ct_21, ct_22, ct_23, ct_24, ct_25, ct_26, ct_27, Nat.reduceBEq, Nat.reduceAdd, List.map, List.contains, List.elem]
  refine ⟨rfl, tr_d (by decide) (by decide) i0 i1 j0 j1 (Nat.le_of_ble_eq_true rfl) rfl ?_⟩
  dsimp only [q_onB, q_onI, q_onS, q_onF, q_onL, q_onD, q_onT, q_onZ, q_onU_none, q_onU_bool, q_onU_int, q_onU_str, q_onU_tup, q_onU_ints, q_onU_strs, q_onU_fdct, q_un_neg, q_un_not, q_un_it0, q_un_it1, q_un_abs, q_un_mxL, q_un_mnL, q_un_one, q_bi_sub, q_bi_mul, q_bi_fdiv, q_bi_mod, q_bi_add, q_bi_lt, q_bi_le, q_bi_gt, q_bi_ge, q_bi_eq, q_bi_ne, q_bi_mx, q_bi_mn, q_cat, q_eq_s, q_eq_b, q_eq_n, q_eq_t, q_ne_s, q_ne_b, q_ne_n, q_ne_t, q_is_n, q_is_t, q_isnot_n, q_isnot_t, q_eqD_i, q_eqD_t, q_froz_n, q_froz_c, q_frz_none, q_frz_bool, q_frz_int, q_frz_str, q_frz_tup, q_frz_ints, q_frz_strs, q_frz_fdct, q_frz_undef, q_frz_dct, q_look_z, q_look_s, q_upd_z, q_upd_s, q_und_z, q_und_s, q_app_n, q_app_c, q_mkL, q_gI_n, q_gI_i, q_gI_s, q_gS_n, q_gS_i, q_toL_n, q_toL_c, q_dget, q_dset_c, q_dset_n, q_cond_t, q_cond_f, q_for_n, q_for_c, q_allI_i, q_allI_s, q_allI_f, q_allN_n, q_allN_c, q_allK_n, q_allK_c, q_it_t, q_it_s, q_unr_n, q_unr_c, q_isD_none, q_isD_bool, q_isD_int, q_isD_str, q_isD_tup, q_isD_ints, q_isD_strs, q_isD_fdct, q_isD_undef, q_isD_dct, q_hasD_n, q_hasD_c, q_flat_none, q_flat_bool, q_flat_int, q_flat_str, q_flat_ints, q_flat_strs, q_flat_tup, q_flat_fdct, q_flat_dnil, q_flat_dcons, q_tor, q_for_b, q_tand, q_fand, q_nt, q_nf, u_done, u_set, u_set2, u_setD, u_setK, u_ifk, u_freeze, u_ret, u_cont, u_ifr, u_forr, u_ford, w_var, w_lit, w_un, w_bi, w_key, w_bo, w_ite, w_tup, w_call, w_lst, w_dict, w_anil, w_acons, ct_0, ct_1, ct_2, ct_3, ct_4, ct_5, ct_6, ct_7, ct_8, ct_9, ct_10, ct_11, ct_12, ct_13, ct_14, ct_15, ct_16, ct_17, ct_18, ct_19, ct_20, ct_21, ct_22, ct_23, ct_24, ct_25, ct_26, ct_27, Nat.reduceBEq, Nat.reduceAdd, List.map, List.contains, List.elem]
  exact ⟨rfl, h⟩
theorem f_law_traps (w : World) (h : FS w 22) : FS w 23 := fs_succ h (show FSpec w 210 (22 + 10) T_law_traps from by
  refine' fspec_of (n := 22) ns_law_traps 2 4 ir_law_traps (tabs w) (by decide) (by decide) h ?ho ?hcd ?hb ?hsc ?hco ?hgen ?hk ?hc ?hT
  case ho => k_is
  case hcd => k_is
  case hb =>
    intro vs hv
    obtain ⟨a0, a1, rfl⟩ := len2 hv
    exact rfl
  case hsc => kernel_rfl!
  case hco => rfl
  case hgen => rfl
  case hk => rfl
  case hc => kernel_rfl!
  case hT => exact v_law_traps)

noncomputable def ir_d1 : IS := .set2 9 10 (.key (.var 4) (.var 6)) 
      (.ifr (.bo false (.bi .ne (.var 10) (.key (.var 5) (.var 6))) (.bo false (.un .not (.call 19 (.acons 0 (.un .it0 (.var 9)) .anil))) (.bo false (.un .not (.call 19 (.acons 0 (.un .it1 (.var 9)) .anil))) (.un .one (.bi .gt (.un .it0 (.var 9)) (.un .it1 (.var 9))))))) (.ret (.lit (.bool false))) .done)
noncomputable def ir_d2 : IS := .set 9 (.un .it0 (.key (.var 4) (.var 6))) 
              (.ifr (.bo true (.call 19 (.acons 0 (.key (.var 11) (.var 6)) .anil)) (.un .one (.bo false (.bi .lt (.key (.var 11) (.var 6)) (.un .it0 (.var 9))) (.un .one (.bi .gt (.key (.var 11) (.var 6)) (.un .it1 (.var 9))))))) (.ret (.lit (.bool false))) .done)
noncomputable def ir_d3 : IS := .set 11 (.call 21 (.acons 0 (.var 7) (.acons 0 (.var 8) .anil))) (.forr 6 [9] (.var 11) ir_d2 .done)
section
variable {rt : SV → Prop} {X Y F S A B U V R M T : SV} {j : Nat} {lo hi v : Int} {bb t : Bool}
theorem de_1 (hd : dget M j = dd lo hi bb) (ht : dget T j = .bool t) (e : bb = t) (h1 : -2147483648 ≤ lo) (h2 : lo ≤ hi) (h3 : hi ≤ 2147483647) :
    wpS CT ir_d1 [X, Y, F, S, .fdct M, .fdct T, .str j, A, B, U, V, R] (fun _ => True) rt (fun _ => True) := by
  dsimp only [ir_d1, q_onB, q_onI, q_onS, q_onF, q_onL, q_onD, q_onT, q_onZ, q_onU_none, q_onU_bool, q_onU_int, q_onU_str, q_onU_tup, q_onU_ints, q_onU_strs, q_onU_fdct, q_un_neg, q_un_not, q_un_it0, q_un_it1, q_un_abs, q_un_mxL, q_un_mnL, q_un_one, q_bi_sub, q_bi_mul, q_bi_fdiv, q_bi_mod, q_bi_add, q_bi_lt, q_bi_le, q_bi_gt, q_bi_ge, q_bi_eq, q_bi_ne, q_bi_mx, q_bi_mn, q_cat, q_eq_s, q_eq_b, q_eq_n, q_eq_t, q_ne_s, q_ne_b, q_ne_n, q_ne_t, q_is_n, q_is_t, q_isnot_n, q_isnot_t, q_eqD_i, q_eqD_t, q_froz_n, q_froz_c, q_frz_none, q_frz_bool, q_frz_int, q_frz_str, q_frz_tup, q_frz_ints, q_frz_strs, q_frz_fdct, q_frz_undef, q_frz_dct, q_look_z, q_look_s, q_upd_z, q_upd_s, q_und_z, q_und_s, q_app_n, q_app_c, q_mkL, q_gI_n, q_gI_i, q_gI_s, q_gS_n, q_gS_i, q_toL_n, q_toL_c, q_dget, q_dset_c, q_dset_n, q_cond_t, q_cond_f, q_for_n, q_for_c, q_allI_i, q_allI_s, q_allI_f, q_allN_n, q_allN_c, q_allK_n, q_allK_c, q_it_t, q_it_s, q_unr_n, q_unr_c, q_isD_none, q_isD_bool, q_isD_int, q_isD_str, q_isD_tup, q_isD_ints, q_isD_strs, q_isD_fdct, q_isD_undef, q_isD_dct, q_hasD_n, q_hasD_c, q_flat_none, q_flat_bool, q_flat_int, q_flat_str, q_flat_ints, q_flat_strs, q_flat_tup, q_flat_fdct, q_flat_dnil, q_flat_dcons, q_tor, q_for_b, q_tand, q_fand, q_nt, q_nf, u_done, u_set, u_set2, u_setD, u_setK, u_ifk, u_freeze, u_ret, u_cont, u_ifr, u_forr, u_ford, w_var, w_lit, w_un, w_bi, w_key, w_bo, w_ite, w_tup, w_call, w_lst, w_dict, w_anil, w_acons, ct_0, ct_1, ct_2, ct_3, ct_4, ct_5, ct_6, ct_7, ct_8, ct_9, ct_10, ct_11, ct_12, ct_13, ct_14, ct_15, ct_16, ct_17, ct_18, ct_19, ct_20, ct_21, ct_22, ct_23, ct_24, ct_25, ct_26, ct_27, Nat.reduceBEq, Nat.reduceAdd, List.map, List.contains, List.elem]
  rw [hd]
  dsimp only [q_onB, q_onI, q_onS, q_onF, q_onL, q_onD, q_onT, q_onZ, q_onU_none, q_onU_bool, q_onU_int, q_onU_str, q_onU_tup, q_onU_ints, q_onU_strs, q_onU_fdct, q_un_neg, q_un_not, q_un_it0, q_un_it1, q_un_abs, q_un_mxL, q_un_mnL, q_un_one, q_bi_sub, q_bi_mul, q_bi_fdiv, q_bi_mod, q_bi_add, q_bi_lt, q_bi_le, q_bi_gt, q_bi_ge, q_bi_eq, q_bi_ne, q_bi_mx, q_bi_mn, q_cat, q_eq_s, q_eq_b, q_eq_n, q_eq_t, q_ne_s, q_ne_b, q_ne_n, q_ne_t, q_is_n, q_is_t, q_isnot_n, q_isnot_t, q_eqD_i, q_eqD_t, q_froz_n, q_froz_c, q_frz_none, q_frz_bool, q_frz_int, q_frz_str, q_frz_tup, q_frz_ints, q_frz_strs, q_frz_fdct, q_frz_undef, q_frz_dct, q_look_z, q_look_s, q_upd_z, q_upd_s, q_und_z, q_und_s, q_app_n, q_app_c, q_mkL, q_gI_n, q_gI_i, q_gI_s, q_gS_n, q_gS_i, q_toL_n, q_toL_c, q_dget, q_dset_c, q_dset_n, q_cond_t, q_cond_f, q_for_n, q_for_c, q_allI_i, q_allI_s, q_allI_f, q_allN_n, q_allN_c, q_allK_n, q_allK_c, q_it_t, q_it_s, q_unr_n, q_unr_c, q_isD_none, q_isD_bool, q_isD_int, q_isD_str, q_isD_tup, q_isD_ints, q_isD_strs, q_isD_fdct, q_isD_undef, q_isD_dct, q_hasD_n, q_hasD_c, q_flat_none, q_flat_bool, q_flat_int, q_flat_str, q_flat_ints, q_flat_strs, q_flat_tup, q_flat_fdct, q_flat_dnil, q_flat_dcons, q_tor, q_for_b, q_tand, q_fand, q_nt, q_nf, u_done, u_set, u_set2, u_setD, u_setK, u_ifk, u_freeze, u_ret, u_cont, u_ifr, u_forr, u_ford, w_var, w_lit, w_un, w_bi, w_key, w_bo, w_ite, w_tup, w_call, w_lst, w_dict, w_anil, w_acons, ct_0, ct_1, ct_2, ct_3, ct_4, ct_5, ct_6, ct_7, ct_8, ct_9, ct_10, ct_11, ct_12, ct_13, ct_14, ct_15, ct_16, ct_17, ct_18, ct_19, ct_20, ct_21, ct_22, ct_23, ct_24, ct_25, ct_26, ct_27, Nat.reduceBEq, Nat.reduceAdd, List.map, List.contains, List.elem]
  rw [ht]
  subst e
  have ol : okI lo = true := decide_eq_true ⟨h1, Int.le_trans h2 h3⟩
  have oh : okI hi = true := decide_eq_true ⟨Int.le_trans h1 h2, h3⟩
  dsimp only [q_onB, q_onI, q_onS, q_onF, q_onL, q_onD, q_onT, q_onZ, q_onU_none, q_onU_bool, q_onU_int, q_onU_str, q_onU_tup, q_onU_ints, q_onU_strs, q_onU_fdct, q_un_neg, q_un_not, q_un_it0, q_un_it1, q_un_abs, q_un_mxL, q_un_mnL, q_un_one, q_bi_sub, q_bi_mul, q_bi_fdiv, q_bi_mod, q_bi_add, q_bi_lt, q_bi_le, q_bi_gt, q_bi_ge, q_bi_eq, q_bi_ne, q_bi_mx, q_bi_mn, q_cat, q_eq_s, q_eq_b, q_eq_n, q_eq_t, q_ne_s, q_ne_b, q_ne_n, q_ne_t, q_is_n, q_is_t, q_isnot_n, q_isnot_t, q_eqD_i, q_eqD_t, q_froz_n, q_froz_c, q_frz_none, q_frz_bool, q_frz_int, q_frz_str, q_frz_tup, q_frz_ints, q_frz_strs, q_frz_fdct, q_frz_undef, q_frz_dct, q_look_z, q_look_s, q_upd_z, q_upd_s, q_und_z, q_und_s, q_app_n, q_app_c, q_mkL, q_gI_n, q_gI_i, q_gI_s, q_gS_n, q_gS_i, q_toL_n, q_toL_c, q_dget, q_dset_c, q_dset_n, q_cond_t, q_cond_f, q_for_n, q_for_c, q_allI_i, q_allI_s, q_allI_f, q_allN_n, q_allN_c, q_allK_n, q_allK_c, q_it_t, q_it_s, q_unr_n, q_unr_c, q_isD_none, q_isD_bool, q_isD_int, q_isD_str, q_isD_tup, q_isD_ints, q_isD_strs, q_isD_fdct, q_isD_undef, q_isD_dct, q_hasD_n, q_hasD_c, q_flat_none, q_flat_bool, q_flat_int, q_flat_str, q_flat_ints, q_flat_strs, q_flat_tup, q_flat_fdct, q_flat_dnil, q_flat_dcons, q_tor, q_for_b, q_tand, q_fand, q_nt, q_nf, u_done, u_set, u_set2, u_setD, u_setK, u_ifk, u_freeze, u_ret, u_cont, u_ifr, u_forr, u_ford, w_var, w_lit, w_un, w_bi, w_key, w_bo, w_ite, w_tup, w_call, w_lst, w_dict, w_anil, w_acons, ct_0, ct_1, ct_2, ct_3, ct_4, ct_5, ct_6, ct_7, ct_8, ct_9, ct_10, ct_11, ct_12, ct_13, ct_14, ct_15, ct_16, ct_17, ct_18, ct_19, ct_20, ct_21, ct_22, ct_23, ct_24, ct_25, ct_26, ct_27, Nat.reduceBEq, Nat.reduceAdd, List.map, List.contains, List.elem]
  refine ⟨rfl, fun _ => ⟨_, rfl, fun _ => ⟨_, rfl, fun _ => ⟨fun e => absurd (of_decide_eq_true e) (Int.not_lt.mpr h2), fun _ => trivial⟩, ?_⟩, ?_⟩, ?_⟩
  · rw [oh]; nofun
  · rw [ol]; nofun
  · rw [beq_self_eq_true]; nofun
noncomputable def Fits (M : SV) (j : Nat) (v : Int) : Prop := ∃ lo hi bb, dget M j = dd lo hi bb ∧ (-2147483648 ≤ v → v ≤ 2147483647 → lo ≤ v ∧ v ≤ hi)
theorem de_2 (hr : dget R j = .int v) (hf : Fits M j v) :
    wpS CT ir_d2 [X, Y, F, S, .fdct M, .fdct T, .str j, A, B, U, V, .fdct R] (fun _ => True) rt (fun _ => True) := by
  obtain ⟨lo, hi, bb, hd, hk⟩ := hf
  dsimp only [ir_d2, q_onB, q_onI, q_onS, q_onF, q_onL, q_onD, q_onT, q_onZ, q_onU_none, q_onU_bool, q_onU_int, q_onU_str, q_onU_tup, q_onU_ints, q_onU_strs, q_onU_fdct, q_un_neg, q_un_not, q_un_it0, q_un_it1, q_un_abs, q_un_mxL, q_un_mnL, q_un_one, q_bi_sub, q_bi_mul, q_bi_fdiv, q_bi_mod, q_bi_add, q_bi_lt, q_bi_le, q_bi_gt, q_bi_ge, q_bi_eq, q_bi_ne, q_bi_mx, q_bi_mn, q_cat, q_eq_s, q_eq_b, q_eq_n, q_eq_t, q_ne_s, q_ne_b, q_ne_n, q_ne_t, q_is_n, q_is_t, q_isnot_n, q_isnot_t, q_eqD_i, q_eqD_t, q_froz_n, q_froz_c, q_frz_none, q_frz_bool, q_frz_int, q_frz_str, q_frz_tup, q_frz_ints, q_frz_strs, q_frz_fdct, q_frz_undef, q_frz_dct, q_look_z, q_look_s, q_upd_z, q_upd_s, q_und_z, q_und_s, q_app_n, q_app_c, q_mkL, q_gI_n, q_gI_i, q_gI_s, q_gS_n, q_gS_i, q_toL_n, q_toL_c, q_dget, q_dset_c, q_dset_n, q_cond_t, q_cond_f, q_for_n, q_for_c, q_allI_i, q_allI_s, q_allI_f, q_allN_n, q_allN_c, q_allK_n, q_allK_c, q_it_t, q_it_s, q_unr_n, q_unr_c, q_isD_none, q_isD_bool, q_isD_int, q_isD_str, q_isD_tup, q_isD_ints, q_isD_strs, q_isD_fdct, q_isD_undef, q_isD_dct, q_hasD_n, q_hasD_c, q_flat_none, q_flat_bool, q_flat_int, q_flat_str, q_flat_ints, q_flat_strs, q_flat_tup, q_flat_fdct, q_flat_dnil, q_flat_dcons, q_tor, q_for_b, q_tand, q_fand, q_nt, q_nf, u_done, u_set, u_set2, u_setD, u_setK, u_ifk, u_freeze, u_ret, u_cont, u_ifr, u_forr, u_ford, w_var, w_lit, w_un, w_bi, w_key, w_bo, w_ite, w_tup, w_call, w_lst, w_dict, w_anil, w_acons, ct_0, ct_1, ct_2, ct_3, ct_4, ct_5, ct_6, ct_7, ct_8, ct_9, ct_10, ct_11, ct_12, ct_13, ct_14, ct_15, ct_16, ct_17, ct_18, ct_19, ct_20, ct_21, ct_22, ct_23, ct_24, ct_25, ct_26, ct_27, Nat.reduceBEq, Nat.reduceAdd, List.map, List.contains, List.elem]
  rw [hd, hr]
  dsimp only [q_onB, q_onI, q_onS, q_onF, q_onL, q_onD, q_onT, q_onZ, q_onU_none, q_onU_bool, q_onU_int, q_onU_str, q_onU_tup, q_onU_ints, q_onU_strs, q_onU_fdct, q_un_neg, q_un_not, q_un_it0, q_un_it1, q_un_abs, q_un_mxL, q_un_mnL, q_un_one, q_bi_sub, q_bi_mul, q_bi_fdiv, q_bi_mod, q_bi_add, q_bi_lt, q_bi_le, q_bi_gt, q_bi_ge, q_bi_eq, q_bi_ne, q_bi_mx, q_bi_mn, q_cat, q_eq_s, q_eq_b, q_eq_n, q_eq_t, q_ne_s, q_ne_b, q_ne_n, q_ne_t, q_is_n, q_is_t, q_isnot_n, q_isnot_t, q_eqD_i, q_eqD_t, q_froz_n, q_froz_c, q_frz_none, q_frz_bool, q_frz_int, q_frz_str, q_frz_tup, q_frz_ints, q_frz_strs, q_frz_fdct, q_frz_undef, q_frz_dct, q_look_z, q_look_s, q_upd_z, q_upd_s, q_und_z, q_und_s, q_app_n, q_app_c, q_mkL, q_gI_n, q_gI_i, q_gI_s, q_gS_n, q_gS_i, q_toL_n, q_toL_c, q_dget, q_dset_c, q_dset_n, q_cond_t, q_cond_f, q_for_n, q_for_c, q_allI_i, q_allI_s, q_allI_f, q_allN_n, q_allN_c, q_allK_n, q_allK_c, q_it_t, q_it_s, q_unr_n, q_unr_c, q_isD_none, q_isD_bool, q_isD_int, q_isD_str, q_isD_tup, q_isD_ints, q_isD_strs, q_isD_fdct, q_isD_undef, q_isD_dct, q_hasD_n, q_hasD_c, q_flat_none, q_flat_bool, q_flat_int, q_flat_str, q_flat_ints, q_flat_strs, q_flat_tup, q_flat_fdct, q_flat_dnil, q_flat_dcons, q_tor, q_for_b, q_tand, q_fand, q_nt, q_nf, u_done, u_set, u_set2, u_setD, u_setK, u_ifk, u_freeze, u_ret, u_cont, u_ifr, u_forr, u_ford, w_var, w_lit, w_un, w_bi, w_key, w_bo, w_ite, w_tup, w_call, w_lst, w_dict, w_anil, w_acons, ct_0, ct_1, ct_2, ct_3, ct_4, ct_5, ct_6, ct_7, ct_8, ct_9, ct_10, ct_11, ct_12, ct_13, ct_14, ct_15, ct_16, ct_17, ct_18, ct_19, ct_20, ct_21, ct_22, ct_23, ct_24, ct_25, ct_26, ct_27, Nat.reduceBEq, Nat.reduceAdd, List.map, List.contains, List.elem]
  refine ⟨rfl, _, rfl, fun p => ?_, fun _ => ⟨nofun, fun _ => trivial⟩⟩
  have hv := hk (of_decide_eq_true p).1 (of_decide_eq_true p).2
  exact ⟨fun _ => ⟨fun e => absurd (of_decide_eq_true e) (Int.not_lt.mpr hv.2), fun _ => trivial⟩, fun e => absurd (of_decide_eq_true e) (Int.not_lt.mpr hv.1)⟩
theorem de_3 {x0 x1 y0 y1 a b : Int} {fs ss : List Int} (ha : InI a) (hb : InI b) (m6 : Fits M 6 (fAdd a b)) (m7 : Fits M 7 (fSub a b)) (m8 : Fits M 8 (fMul a b)) (m9 : Fits M 9 (fNeg a b)) (m10 : Fits M 10 (fAbs a b)) (m11 : 0 < b → Fits M 11 (fDiv a b)) (m12 : 0 < b → Fits M 12 (fMod a b)) :
    wpS CT ir_d3 [iv x0 x1, iv y0 y1, .ints fs, .ints ss, .fdct M, .fdct T, .undef, .int a, .int b, .undef, .undef, .undef] (fun _ => True) rt (fun _ => True) := by
  dsimp only [ir_d3, q_onB, q_onI, q_onS, q_onF, q_onL, q_onD, q_onT, q_onZ, q_onU_none, q_onU_bool, q_onU_int, q_onU_str, q_onU_tup, q_onU_ints, q_onU_strs, q_onU_fdct, q_un_neg, q_un_not, q_un_it0, q_un_it1, q_un_abs, q_un_mxL, q_un_mnL, q_un_one, q_bi_sub, q_bi_mul, q_bi_fdiv, q_bi_mod, q_bi_add, q_bi_lt, q_bi_le, q_bi_gt, q_bi_ge, q_bi_eq, q_bi_ne, q_bi_mx, q_bi_mn, q_cat, q_eq_s, q_eq_b, q_eq_n, q_eq_t, q_ne_s, q_ne_b, q_ne_n, q_ne_t, q_is_n, q_is_t, q_isnot_n, q_isnot_t, q_eqD_i, q_eqD_t, q_froz_n, q_froz_c, q_frz_none, q_frz_bool, q_frz_int, q_frz_str, q_frz_tup, q_frz_ints, q_frz_strs, q_frz_fdct, q_frz_undef, q_frz_dct, q_look_z, q_look_s, q_upd_z, q_upd_s, q_und_z, q_und_s, q_app_n, q_app_c, q_mkL, q_gI_n, q_gI_i, q_gI_s, q_gS_n, q_gS_i, q_toL_n, q_toL_c, q_dget, q_dset_c, q_dset_n, q_cond_t, q_cond_f, q_for_n, q_for_c, q_allI_i, q_allI_s, q_allI_f, q_allN_n, q_allN_c, q_allK_n, q_allK_c, q_it_t, q_it_s, q_unr_n, q_unr_c, q_isD_none, q_isD_bool, q_isD_int, q_isD_str, q_isD_tup, q_isD_ints, q_isD_strs, q_isD_fdct, q_isD_undef, q_isD_dct, q_hasD_n, q_hasD_c, q_flat_none, q_flat_bool, q_flat_int, q_flat_str, q_flat_ints, q_flat_strs, q_flat_tup, q_flat_fdct, q_flat_dnil, q_flat_dcons, q_tor, q_for_b, q_tand, q_fand, q_nt, q_nf, u_done, u_set, u_set2, u_setD, u_setK, u_ifk, u_freeze, u_ret, u_cont, u_ifr, u_forr, u_ford, w_var, w_lit, w_un, w_bi, w_key, w_bo, w_ite, w_tup, w_call, w_lst, w_dict, w_anil, w_acons, ct_0, ct_1, ct_2, ct_3, ct_4, ct_5, ct_6, ct_7, ct_8, ct_9, ct_10, ct_11, ct_12, ct_13, ct_14, ct_15, ct_16, ct_17, ct_18, ct_19, ct_20, ct_21, ct_22, ct_23, ct_24, ct_25, ct_26, ct_27, Nat.reduceBEq, Nat.reduceAdd, List.map, List.contains, List.elem]
  refine ⟨_, _, rfl, ⟨ha, hb⟩, ?_⟩
  dsimp only [q_onB, q_onI, q_onS, q_onF, q_onL, q_onD, q_onT, q_onZ, q_onU_none, q_onU_bool, q_onU_int, q_onU_str, q_onU_tup, q_onU_ints, q_onU_strs, q_onU_fdct, q_un_neg, q_un_not, q_un_it0, q_un_it1, q_un_abs, q_un_mxL, q_un_mnL, q_un_one, q_bi_sub, q_bi_mul, q_bi_fdiv, q_bi_mod, q_bi_add, q_bi_lt, q_bi_le, q_bi_gt, q_bi_ge, q_bi_eq, q_bi_ne, q_bi_mx, q_bi_mn, q_cat, q_eq_s, q_eq_b, q_eq_n, q_eq_t, q_ne_s, q_ne_b, q_ne_n, q_ne_t, q_is_n, q_is_t, q_isnot_n, q_isnot_t, q_eqD_i, q_eqD_t, q_froz_n, q_froz_c, q_frz_none, q_frz_bool, q_frz_int, q_frz_str, q_frz_tup, q_frz_ints, q_frz_strs, q_frz_fdct, q_frz_undef, q_frz_dct, q_look_z, q_look_s, q_upd_z, q_upd_s, q_und_z, q_und_s, q_app_n, q_app_c, q_mkL, q_gI_n, q_gI_i, q_gI_s, q_gS_n, q_gS_i, q_toL_n, q_toL_c, q_dget, q_dset_c, q_dset_n, q_cond_t, q_cond_f, q_for_n, q_for_c, q_allI_i, q_allI_s, q_allI_f, q_allN_n, q_allN_c, q_allK_n, q_allK_c, q_it_t, q_it_s, q_unr_n, q_unr_c, q_isD_none, q_isD_bool, q_isD_int, q_isD_str, q_isD_tup, q_isD_ints, q_isD_strs, q_isD_fdct, q_isD_undef, q_isD_dct, q_hasD_n, q_hasD_c, q_flat_none, q_flat_bool, q_flat_int, q_flat_str, q_flat_ints, q_flat_strs, q_flat_tup, q_flat_fdct, q_flat_dnil, q_flat_dcons, q_tor, q_for_b, q_tand, q_fand, q_nt, q_nf, u_done, u_set, u_set2, u_setD, u_setK, u_ifk, u_freeze, u_ret, u_cont, u_ifr, u_forr, u_ford, w_var, w_lit, w_un, w_bi, w_key, w_bo, w_ite, w_tup, w_call, w_lst, w_dict, w_anil, w_acons, ct_0, ct_1, ct_2, ct_3, ct_4, ct_5, ct_6, ct_7, ct_8, ct_9, ct_10, ct_11, ct_12, ct_13, ct_14, ct_15, ct_16, ct_17, ct_18, ct_19, ct_20, ct_21, ct_22, ct_23, ct_24, ct_25, ct_26, ct_27, Nat.reduceBEq, Nat.reduceAdd, List.map, List.contains, List.elem]
  refine ⟨rfl, rfl, ?_, trivial⟩
  by_cases p : 0 < b
  · have e : resD a b = .dcons 6 (.int (fAdd a b)) (.dcons 7 (.int (fSub a b)) (.dcons 8 (.int (fMul a b)) (.dcons 9 (.int (fNeg a b)) (.dcons 10 (.int (fAbs a b)) (.dcons 11 (.int (fDiv a b)) (.dcons 12 (.int (fMod a b)) .dnil)))))) := by unfold resD; rw [if_pos p]
    rw [e]
    exact ⟨de_2 rfl m6, de_2 rfl m7, de_2 rfl m8, de_2 rfl m9, de_2 rfl m10, de_2 rfl (m11 p), de_2 rfl (m12 p), trivial⟩
  · have e : resD a b = .dcons 6 (.int (fAdd a b)) (.dcons 7 (.int (fSub a b)) (.dcons 8 (.int (fMul a b)) (.dcons 9 (.int (fNeg a b)) (.dcons 10 (.int (fAbs a b)) .dnil)))) := by unfold resD; rw [if_neg p]
    rw [e]
    exact ⟨de_2 rfl m6, de_2 rfl m7, de_2 rfl m8, de_2 rfl m9, de_2 rfl m10, trivial⟩
end
theorem not_ok {n : Int} : (!okI n) = true ↔ Out n := by
  unfold okI Out
  rw [Bool.not_eq_true', decide_eq_false_iff_not, Decidable.not_and_iff_not_or_not, Int.not_le, Int.not_le]
theorem or4 {p q r s : Bool} {P Q R S : Prop} (h1 : p = true ↔ P) (h2 : q = true ↔ Q) (h3 : r = true ↔ R) (h4 : s = true ↔ S) : (p || (q || (r || (s || false)))) = true ↔ S ∨ R ∨ Q ∨ P := by
  rw [Bool.or_eq_true, Bool.or_eq_true, Bool.or_eq_true, Bool.or_false, h1, h2, h3, h4]
  exact ⟨fun h => h.elim (fun h => .inr (.inr (.inr h))) fun h => h.elim (fun h => .inr (.inr (.inl h))) fun h => h.elim (fun h => .inr (.inl h)) .inl, fun h => h.elim (fun h => .inr (.inr (.inr h))) fun h => h.elim (fun h => .inr (.inr (.inl h))) fun h => h.elim (fun h => .inr (.inl h)) .inl⟩
theorem trb_eq {f : Int → Int → Int} {x0 x1 y0 y1 : Int} {bb : Bool} (h : bb = true ↔ Trap4 f x0 x1 y0 y1) : bb = trB f x0 x1 y0 y1 :=
  Bool.eq_iff_iff.mpr (h.trans (or4 not_ok not_ok not_ok not_ok).symm)
theorem bb_eq {y0 : Int} {bb : Bool} (h : bb = true ↔ y0 < 1) : bb = decide (y0 < 1) := by
  cases bb
  · exact (decide_eq_false fun e => Bool.noConfusion (h.mpr e)).symm
  · exact (decide_eq_true (h.mp rfl)).symm
theorem fits_of {M : SV} {j : Nat} {f : Int → Int → Int} {dom : Int → Prop} {x0 x1 y0 y1 lo hi a b : Int} {bb : Bool} {T : Prop} (hd : dget M j = dd lo hi bb) (J : DeedJ f dom x0 x1 y0 y1 T lo hi bb) (h0 : x0 ≤ a ∧ a ≤ x1) (h1 : y0 ≤ b ∧ b ≤ y1) (hb : dom b) : Fits M j (f a b) :=
  ⟨lo, hi, bb, hd, J.2.2.2.2 a b h0.1 h0.2 h1.1 h1.2 hb⟩
theorem de_4 {rt : SV → Prop} {X Y F S A B U V R M T : SV} {j : Nat} {lo hi x0 x1 y0 y1 : Int} {bb t : Bool} {f : Int → Int → Int} {dom : Int → Prop} {P : Prop} (hd : dget M j = dd lo hi bb) (ht : dget T j = .bool t) (J : DeedJ f dom x0 x1 y0 y1 P lo hi bb) (e : bb = t) :
    wpS CT ir_d1 [X, Y, F, S, .fdct M, .fdct T, .str j, A, B, U, V, R] (fun _ => True) rt (fun _ => True) := de_1 hd ht e J.1 J.2.1 J.2.2.1
noncomputable def ir_dl : IS := .forr 6 [9, 10] (.var 5) ir_d1 (.forr 7 [8, 11, 6, 9] (.var 2) (.forr 8 [11, 6, 9] (.var 3) ir_d3 .done) (.ret (.lit (.bool true))))
noncomputable def ir_da : IS := .setD 4 (.acons 6 (.call 2 (.acons 0 (.var 0) (.acons 0 (.var 1) .anil))) (.acons 7 (.call 3 (.acons 0 (.var 0) (.acons 0 (.var 1) .anil))) (.acons 8 (.call 4 (.acons 0 (.var 0) (.acons 0 (.var 1) .anil))) (.acons 9 (.call 5 (.acons 0 (.var 0) .anil)) .anil)))) 
  (.setK 4 (.lit (.str 10)) (.call 6 (.acons 0 (.var 0) .anil)) 
  (.setK 4 (.lit (.str 11)) (.call 7 (.acons 0 (.var 0) (.acons 0 (.var 1) .anil))) 
  (.setK 4 (.lit (.str 12)) (.call 8 (.acons 0 (.var 0) (.acons 0 (.var 1) .anil))) 
  (.freeze (.set 5 (.call 22 (.acons 0 (.var 0) (.acons 0 (.var 1) .anil))) ir_dl)))))
theorem v_law_deeds : ∀ (args : List SV) (K : SV → Prop), T_law_deeds args K → args.length = 4 ∧ wpS CT ir_law_deeds (args ++ undefs 8) (fun _ => K .none) K (fun _ => False) := by
  rintro args K ⟨x0, x1, y0, y1, fs, ss, rfl, ⟨⟨hx, h0, h1⟩, ⟨hy, h2, h3⟩, mf, ms, hl⟩, h⟩
  refine ⟨rfl, ?_⟩
  have hX : Rg x0 x1 := ⟨hx, h0, h1⟩
  have hY : Rg y0 y1 := ⟨hy, h2, h3⟩
  show wpS CT ir_da _ _ _ _
  dsimp only [ir_da, q_onB, q_onI, q_onS, q_onF, q_onL, q_onD, q_onT, q_onZ, q_onU_none, q_onU_bool, q_onU_int, q_onU_str, q_onU_tup, q_onU_ints, q_onU_strs, q_onU_fdct, q_un_neg, q_un_not, q_un_it0, q_un_it1, q_un_abs, q_un_mxL, q_un_mnL, q_un_one, q_bi_sub, q_bi_mul, q_bi_fdiv, q_bi_mod, q_bi_add, q_bi_lt, q_bi_le, q_bi_gt, q_bi_ge, q_bi_eq, q_bi_ne, q_bi_mx, q_bi_mn, q_cat, q_eq_s, q_eq_b, q_eq_n, q_eq_t, q_ne_s, q_ne_b, q_ne_n, q_ne_t, q_is_n, q_is_t, q_isnot_n, q_isnot_t, q_eqD_i, q_eqD_t, q_froz_n, q_froz_c, q_frz_none, q_frz_bool, q_frz_int, q_frz_str, q_frz_tup, q_frz_ints, q_frz_strs, q_frz_fdct, q_frz_undef, q_frz_dct, q_look_z, q_look_s, q_upd_z, q_upd_s, q_und_z, q_und_s, q_app_n, q_app_c, q_mkL, q_gI_n, q_gI_i, q_gI_s, q_gS_n, q_gS_i, q_toL_n, q_toL_c, q_dget, q_dset_c, q_dset_n, q_cond_t, q_cond_f, q_for_n, q_for_c, q_allI_i, q_allI_s, q_allI_f, q_allN_n, q_allN_c, q_allK_n, q_allK_c, q_it_t, q_it_s, q_unr_n, q_unr_c, q_isD_none, q_isD_bool, q_isD_int, q_isD_str, q_isD_tup, q_isD_ints, q_isD_strs, q_isD_fdct, q_isD_undef, q_isD_dct, q_hasD_n, q_hasD_c, q_flat_none, q_flat_bool, q_flat_int, q_flat_str, q_flat_ints, q_flat_strs, q_flat_tup, q_flat_fdct, q_flat_dnil, q_flat_dcons, q_tor, q_for_b, q_tand, q_fand, q_nt, q_nf, u_done, u_set, u_set2, u_setD, u_setK, u_ifk, u_freeze, u_ret, u_cont, u_ifr, u_forr, u_ford, w_var, w_lit, w_un, w_bi, w_key, w_bo, w_ite, w_tup, w_call, w_lst, w_dict, w_anil, w_acons, ct_0, ct_1, ct_2, ct_3, ct_4, ct_5, ct_6, ct_7, ct_8, ct_9, ct_10, ct_11, ct_12, ct_13, ct_14, ct_15, ct_16, ct_17, ct_18, ct_19, ct_20, ct_21, ct_22, ct_23, ct_24, ct_25, ct_26, ct_27, Nat.reduceBEq, Nat.reduceAdd, List.map, List.contains, List.elem]
  refine ⟨rfl, _, _, _, _, rfl, ⟨hX, hY⟩, fun l6 u6 b6 J6 => ?_⟩
  dsimp only [q_onB, q_onI, q_onS, q_onF, q_onL, q_onD, q_onT, q_onZ, q_onU_none, q_onU_bool, q_onU_int, q_onU_str, q_onU_tup, q_onU_ints, q_onU_strs, q_onU_fdct, q_un_neg, q_un_not, q_un_it0, q_un_it1, q_un_abs, q_un_mxL, q_un_mnL, q_un_one, q_bi_sub, q_bi_mul, q_bi_fdiv, q_bi_mod, q_bi_add, q_bi_lt, q_bi_le, q_bi_gt, q_bi_ge, q_bi_eq, q_bi_ne, q_bi_mx, q_bi_mn, q_cat, q_eq_s, q_eq_b, q_eq_n, q_eq_t, q_ne_s, q_ne_b, q_ne_n, q_ne_t, q_is_n, q_is_t, q_isnot_n, q_isnot_t, q_eqD_i, q_eqD_t, q_froz_n, q_froz_c, q_frz_none, q_frz_bool, q_frz_int, q_frz_str, q_frz_tup, q_frz_ints, q_frz_strs, q_frz_fdct, q_frz_undef, q_frz_dct, q_look_z, q_look_s, q_upd_z, q_upd_s, q_und_z, q_und_s, q_app_n, q_app_c, q_mkL, q_gI_n, q_gI_i, q_gI_s, q_gS_n, q_gS_i, q_toL_n, q_toL_c, q_dget, q_dset_c, q_dset_n, q_cond_t, q_cond_f, q_for_n, q_for_c, q_allI_i, q_allI_s, q_allI_f, q_allN_n, q_allN_c, q_allK_n, q_allK_c, q_it_t, q_it_s, q_unr_n, q_unr_c, q_isD_none, q_isD_bool, q_isD_int, q_isD_str, q_isD_tup, q_isD_ints, q_isD_strs, q_isD_fdct, q_isD_undef, q_isD_dct, q_hasD_n, q_hasD_c, q_flat_none, q_flat_bool, q_flat_int, q_flat_str, q_flat_ints, q_flat_strs, q_flat_tup, q_flat_fdct, q_flat_dnil, q_flat_dcons, q_tor, q_for_b, q_tand, q_fand, q_nt, q_nf, u_done, u_set, u_set2, u_setD, u_setK, u_ifk, u_freeze, u_ret, u_cont, u_ifr, u_forr, u_ford, w_var, w_lit, w_un, w_bi, w_key, w_bo, w_ite, w_tup, w_call, w_lst, w_dict, w_anil, w_acons, ct_0, ct_1, ct_2, ct_3, ct_4, ct_5, ct_6, ct_7, ct_8, ct_9, ct_10, ct_11, ct_12, ct_13, ct_14, ct_15, ct_16, ct_17, ct_18, ct_19, ct_20, ct_21, ct_22, ct_23, ct_24, ct_25, ct_26, ct_27, Nat.reduceBEq, Nat.reduceAdd, List.map, List.contains, List.elem]
  refine ⟨_, _, _, _, rfl, ⟨hX, hY⟩, fun l7 u7 b7 J7 => ?_⟩
  dsimp only [q_onB, q_onI, q_onS, q_onF, q_onL, q_onD, q_onT, q_onZ, q_onU_none, q_onU_bool, q_onU_int, q_onU_str, q_onU_tup, q_onU_ints, q_onU_strs, q_onU_fdct, q_un_neg, q_un_not, q_un_it0, q_un_it1, q_un_abs, q_un_mxL, q_un_mnL, q_un_one, q_bi_sub, q_bi_mul, q_bi_fdiv, q_bi_mod, q_bi_add, q_bi_lt, q_bi_le, q_bi_gt, q_bi_ge, q_bi_eq, q_bi_ne, q_bi_mx, q_bi_mn, q_cat, q_eq_s, q_eq_b, q_eq_n, q_eq_t, q_ne_s, q_ne_b, q_ne_n, q_ne_t, q_is_n, q_is_t, q_isnot_n, q_isnot_t, q_eqD_i, q_eqD_t, q_froz_n, q_froz_c, q_frz_none, q_frz_bool, q_frz_int, q_frz_str, q_frz_tup, q_frz_ints, q_frz_strs, q_frz_fdct, q_frz_undef, q_frz_dct, q_look_z, q_look_s, q_upd_z, q_upd_s, q_und_z, q_und_s, q_app_n, q_app_c, q_mkL, q_gI_n, q_gI_i, q_gI_s, q_gS_n, q_gS_i, q_toL_n, q_toL_c, q_dget, q_dset_c, q_dset_n, q_cond_t, q_cond_f, q_for_n, q_for_c, q_allI_i, q_allI_s, q_allI_f, q_allN_n, q_allN_c, q_allK_n, q_allK_c, q_it_t, q_it_s, q_unr_n, q_unr_c, q_isD_none, q_isD_bool, q_isD_int, q_isD_str, q_isD_tup, q_isD_ints, q_isD_strs, q_isD_fdct, q_isD_undef, q_isD_dct, q_hasD_n, q_hasD_c, q_flat_none, q_flat_bool, q_flat_int, q_flat_str, q_flat_ints, q_flat_strs, q_flat_tup, q_flat_fdct, q_flat_dnil, q_flat_dcons, q_tor, q_for_b, q_tand, q_fand, q_nt, q_nf, u_done, u_set, u_set2, u_setD, u_setK, u_ifk, u_freeze, u_ret, u_cont, u_ifr, u_forr, u_ford, w_var, w_lit, w_un, w_bi, w_key, w_bo, w_ite, w_tup, w_call, w_lst, w_dict, w_anil, w_acons, ct_0, ct_1, ct_2, ct_3, ct_4, ct_5, ct_6, ct_7, ct_8, ct_9, ct_10, ct_11, ct_12, ct_13, ct_14, ct_15, ct_16, ct_17, ct_18, ct_19, ct_20, ct_21, ct_22, ct_23, ct_24, ct_25, ct_26, ct_27, Nat.reduceBEq, Nat.reduceAdd, List.map, List.contains, List.elem]
  refine ⟨_, _, _, _, rfl, ⟨hX, hY⟩, fun l8 u8 b8 J8 => ?_⟩
  dsimp only [q_onB, q_onI, q_onS, q_onF, q_onL, q_onD, q_onT, q_onZ, q_onU_none, q_onU_bool, q_onU_int, q_onU_str, q_onU_tup, q_onU_ints, q_onU_strs, q_onU_fdct, q_un_neg, q_un_not, q_un_it0, q_un_it1, q_un_abs, q_un_mxL, q_un_mnL, q_un_one, q_bi_sub, q_bi_mul, q_bi_fdiv, q_bi_mod, q_bi_add, q_bi_lt, q_bi_le, q_bi_gt, q_bi_ge, q_bi_eq, q_bi_ne, q_bi_mx, q_bi_mn, q_cat, q_eq_s, q_eq_b, q_eq_n, q_eq_t, q_ne_s, q_ne_b, q_ne_n, q_ne_t, q_is_n, q_is_t, q_isnot_n, q_isnot_t, q_eqD_i, q_eqD_t, q_froz_n, q_froz_c, q_frz_none, q_frz_bool, q_frz_int, q_frz_str, q_frz_tup, q_frz_ints, q_frz_strs, q_frz_fdct, q_frz_undef, q_frz_dct, q_look_z, q_look_s, q_upd_z, q_upd_s, q_und_z, q_und_s, q_app_n, q_app_c, q_mkL, q_gI_n, q_gI_i, q_gI_s, q_gS_n, q_gS_i, q_toL_n, q_toL_c, q_dget, q_dset_c, q_dset_n, q_cond_t, q_cond_f, q_for_n, q_for_c, q_allI_i, q_allI_s, q_allI_f, q_allN_n, q_allN_c, q_allK_n, q_allK_c, q_it_t, q_it_s, q_unr_n, q_unr_c, q_isD_none, q_isD_bool, q_isD_int, q_isD_str, q_isD_tup, q_isD_ints, q_isD_strs, q_isD_fdct, q_isD_undef, q_isD_dct, q_hasD_n, q_hasD_c, q_flat_none, q_flat_bool, q_flat_int, q_flat_str, q_flat_ints, q_flat_strs, q_flat_tup, q_flat_fdct, q_flat_dnil, q_flat_dcons, q_tor, q_for_b, q_tand, q_fand, q_nt, q_nf, u_done, u_set, u_set2, u_setD, u_setK, u_ifk, u_freeze, u_ret, u_cont, u_ifr, u_forr, u_ford, w_var, w_lit, w_un, w_bi, w_key, w_bo, w_ite, w_tup, w_call, w_lst, w_dict, w_anil, w_acons, ct_0, ct_1, ct_2, ct_3, ct_4, ct_5, ct_6, ct_7, ct_8, ct_9, ct_10, ct_11, ct_12, ct_13, ct_14, ct_15, ct_16, ct_17, ct_18, ct_19, ct_20, ct_21, ct_22, ct_23, ct_24, ct_25, ct_26, ct_27, Nat.reduceBEq, Nat.reduceAdd, List.map, List.contains, List.elem]
  refine ⟨_, _, rfl, hX, fun l9 u9 b9 J9 => ?_⟩
  dsimp only [q_onB, q_onI, q_onS, q_onF, q_onL, q_onD, q_onT, q_onZ, q_onU_none, q_onU_bool, q_onU_int, q_onU_str, q_onU_tup, q_onU_ints, q_onU_strs, q_onU_fdct, q_un_neg, q_un_not, q_un_it0, q_un_it1, q_un_abs, q_un_mxL, q_un_mnL, q_un_one, q_bi_sub, q_bi_mul, q_bi_fdiv, q_bi_mod, q_bi_add, q_bi_lt, q_bi_le, q_bi_gt, q_bi_ge, q_bi_eq, q_bi_ne, q_bi_mx, q_bi_mn, q_cat, q_eq_s, q_eq_b, q_eq_n, q_eq_t, q_ne_s, q_ne_b, q_ne_n, q_ne_t, q_is_n, q_is_t, q_isnot_n, q_isnot_t, q_eqD_i, q_eqD_t, q_froz_n, q_froz_c, q_frz_none, q_frz_bool, q_frz_int, q_frz_str, q_frz_tup, q_frz_ints, q_frz_strs, q_frz_fdct, q_frz_undef, q_frz_dct, q_look_z, q_look_s, q_upd_z, q_upd_s, q_und_z, q_und_s, q_app_n, q_app_c, q_mkL, q_gI_n, q_gI_i, q_gI_s, q_gS_n, q_gS_i, q_toL_n, q_toL_c, q_dget, q_dset_c, q_dset_n, q_cond_t, q_cond_f, q_for_n, q_for_c, q_allI_i, q_allI_s, q_allI_f, q_allN_n, q_allN_c, q_allK_n, q_allK_c, q_it_t, q_it_s, q_unr_n, q_unr_c, q_isD_none, q_isD_bool, q_isD_int, q_isD_str, q_isD_tup, q_isD_ints, q_isD_strs, q_isD_fdct, q_isD_undef, q_isD_dct, q_hasD_n, q_hasD_c, q_flat_none, q_flat_bool, q_flat_int, q_flat_str, q_flat_ints, q_flat_strs, q_flat_tup, q_flat_fdct, q_flat_dnil, q_flat_dcons, q_tor, q_for_b, q_tand, q_fand, q_nt, q_nf, u_done, u_set, u_set2, u_setD, u_setK, u_ifk, u_freeze, u_ret, u_cont, u_ifr, u_forr, u_ford, w_var, w_lit, w_un, w_bi, w_key, w_bo, w_ite, w_tup, w_call, w_lst, w_dict, w_anil, w_acons, ct_0, ct_1, ct_2, ct_3, ct_4, ct_5, ct_6, ct_7, ct_8, ct_9, ct_10, ct_11, ct_12, ct_13, ct_14, ct_15, ct_16, ct_17, ct_18, ct_19, ct_20, ct_21, ct_22, ct_23, ct_24, ct_25, ct_26, ct_27, Nat.reduceBEq, Nat.reduceAdd, List.map, List.contains, List.elem]
  refine ⟨rfl, _, _, rfl, hX, fun l10 u10 b10 J10 => ⟨rfl, rfl, _, _, _, _, rfl, ⟨hX, hY⟩, fun l11 u11 b11 J11 => ⟨rfl, rfl, _, _, _, _, rfl, ⟨hX, hY⟩, fun l12 u12 b12 J12 => ⟨rfl, rfl, ?_⟩⟩⟩⟩
  refine ⟨_, _, _, _, rfl, ⟨hX, hY⟩, ?_⟩
  dsimp only [ir_dl, q_onB, q_onI, q_onS, q_onF, q_onL, q_onD, q_onT, q_onZ, q_onU_none, q_onU_bool, q_onU_int, q_onU_str, q_onU_tup, q_onU_ints, q_onU_strs, q_onU_fdct, q_un_neg, q_un_not, q_un_it0, q_un_it1, q_un_abs, q_un_mxL, q_un_mnL, q_un_one, q_bi_sub, q_bi_mul, q_bi_fdiv, q_bi_mod, q_bi_add, q_bi_lt, q_bi_le, q_bi_gt, q_bi_ge, q_bi_eq, q_bi_ne, q_bi_mx, q_bi_mn, q_cat, q_eq_s, q_eq_b, q_eq_n, q_eq_t, q_ne_s, q_ne_b, q_ne_n, q_ne_t, q_is_n, q_is_t, q_isnot_n, q_isnot_t, q_eqD_i, q_eqD_t, q_froz_n, q_froz_c, q_frz_none, q_frz_bool, q_frz_int, q_frz_str, q_frz_tup, q_frz_ints, q_frz_strs, q_frz_fdct, q_frz_undef, q_frz_dct, q_look_z, q_look_s, q_upd_z, q_upd_s, q_und_z, q_und_s, q_app_n, q_app_c, q_mkL, q_gI_n, q_gI_i, q_gI_s, q_gS_n, q_gS_i, q_toL_n, q_toL_c, q_dget, q_dset_c, q_dset_n, q_cond_t, q_cond_f, q_for_n, q_for_c, q_allI_i, q_allI_s, q_allI_f, q_allN_n, q_allN_c, q_allK_n, q_allK_c, q_it_t, q_it_s, q_unr_n, q_unr_c, q_isD_none, q_isD_bool, q_isD_int, q_isD_str, q_isD_tup, q_isD_ints, q_isD_strs, q_isD_fdct, q_isD_undef, q_isD_dct, q_hasD_n, q_hasD_c, q_flat_none, q_flat_bool, q_flat_int, q_flat_str, q_flat_ints, q_flat_strs, q_flat_tup, q_flat_fdct, q_flat_dnil, q_flat_dcons, q_tor, q_for_b, q_tand, q_fand, q_nt, q_nf, u_done, u_set, u_set2, u_setD, u_setK, u_ifk, u_freeze, u_ret, u_cont, u_ifr, u_forr, u_ford, w_var, w_lit, w_un, w_bi, w_key, w_bo, w_ite, w_tup, w_call, w_lst, w_dict, w_anil, w_acons, ct_0, ct_1, ct_2, ct_3, ct_4, ct_5, ct_6, ct_7, ct_8, ct_9, ct_10, ct_11, ct_12, ct_13, ct_14, ct_15, ct_16, ct_17, ct_18, ct_19, ct_20, ct_21, ct_22, ct_23, ct_24, ct_25, ct_26, ct_27, Nat.reduceBEq, Nat.reduceAdd, List.map, List.contains, List.elem]
  refine ⟨rfl, rfl, ⟨de_4 rfl rfl J11 (bb_eq J11.2.2.2.1), de_4 rfl rfl J12 (bb_eq J12.2.2.2.1), de_4 rfl rfl J6 (trb_eq J6.2.2.2.1), de_4 rfl rfl J7 (trb_eq J7.2.2.2.1), de_4 rfl rfl J8 (trb_eq J8.2.2.2.1), de_4 rfl rfl (J9 y0 y1) (trb_eq (J9 y0 y1).2.2.2.1), de_4 rfl rfl (J10 y0 y1) (trb_eq (J10 y0 y1).2.2.2.1), trivial⟩, rfl, fun a ma => ⟨rfl, fun b mb => ?_, trivial⟩, h⟩
  have ha := mf a ma
  have hb := ms b mb
  exact de_3 ⟨Int.le_trans h0 ha.1, Int.le_trans ha.2 h1⟩ ⟨Int.le_trans h2 hb.1, Int.le_trans hb.2 h3⟩ (fits_of rfl J6 ha hb trivial) (fits_of rfl J7 ha hb trivial) (fits_of rfl J8 ha hb trivial) (fits_of rfl (J9 y0 y1) ha hb trivial) (fits_of rfl (J10 y0 y1) ha hb trivial) (fun p => fits_of rfl J11 ha hb p) (fun p => fits_of rfl J12 ha hb p)
theorem f_law_deeds (w : World) (h : FS w 23) : FS w 24 := fs_succ h (show FSpec w 217 (23 + 10) T_law_deeds from by
  refine' fspec_of (n := 23) ns_law_deeds 4 8 ir_law_deeds (tabs w) (by decide) (by decide) h ?ho ?hcd ?hb ?hsc ?hco ?hgen ?hk ?hc ?hT
  case ho => k_is
  case hcd => k_is
  case hb =>
    intro vs hv
    obtain ⟨a0, a1, a2, a3, rfl⟩ := len4 hv
    exact rfl
  case hsc => kernel_rfl!
  case hco => rfl
  case hgen => rfl
  case hk => rfl
  case hc => kernel_rfl!
  case hT => exact v_law_deeds)

theorem t_e {P : Prop} [Decidable P] : (decide P == true) = true ↔ P := by by_cases h : P <;> simp only [h, decide_true, decide_false] <;> decide
theorem t_n {P Q : Prop} [Decidable P] (k : ¬ P ↔ Q) : (decide P == false) = true ↔ Q := by by_cases h : P <;> simp only [← k, h, decide_true, decide_false] <;> decide
theorem t_m {P Q : Prop} [Decidable P] (k : ¬ P ↔ Q) : (!decide P) = true ↔ Q := by by_cases h : P <;> simp only [← k, h, decide_true, decide_false] <;> decide
theorem op3 {op : Nat} (ho : op < 6) : (op == 0) = false → (op == 1) = false → (op == 2) = false → (op == 5) = false → ¬ op = 4 → op = 3 :=
  lt6 (P := fun op => (op == 0) = false → (op == 1) = false → (op == 2) = false → (op == 5) = false → ¬ op = 4 → op = 3) (fun h => bad rfl h) (fun _ h => bad rfl h) (fun _ _ h => bad rfl h) (fun _ _ _ _ _ => rfl) (fun _ _ _ _ h => absurd rfl h) (fun _ _ _ h => bad rfl h) ho
theorem nni {P : Prop} [Decidable P] : P ↔ ¬ ¬ P := Decidable.not_not.symm
theorem v_law_true : ∀ (args : List SV) (K : SV → Prop), T_law_true args K → args.length = 3 ∧ wpS CT ir_law_true (args ++ undefs 0) (fun _ => K .none) K (fun _ => False) := by
  rintro args K ⟨op, a, b, rfl, ho, h⟩
  refine ⟨rfl, ?_⟩
  dsimp only [ir_law_true, q_onB, q_onI, q_onS, q_onF, q_onL, q_onD, q_onT, q_onZ, q_onU_none, q_onU_bool, q_onU_int, q_onU_str, q_onU_tup, q_onU_ints, q_onU_strs, q_onU_fdct, q_un_neg, q_un_not, q_un_it0, q_un_it1, q_un_abs, q_un_mxL, q_un_mnL, q_un_one, q_bi_sub, q_bi_mul, q_bi_fdiv, q_bi_mod, q_bi_add, q_bi_lt, q_bi_le, q_bi_gt, q_bi_ge, q_bi_eq, q_bi_ne, q_bi_mx, q_bi_mn, q_cat, q_eq_s, q_eq_b, q_eq_n, q_eq_t, q_ne_s, q_ne_b, q_ne_n, q_ne_t, q_is_n, q_is_t, q_isnot_n, q_isnot_t, q_eqD_i, q_eqD_t, q_froz_n, q_froz_c, q_frz_none, q_frz_bool, q_frz_int, q_frz_str, q_frz_tup, q_frz_ints, q_frz_strs, q_frz_fdct, q_frz_undef, q_frz_dct, q_look_z, q_look_s, q_upd_z, q_upd_s, q_und_z, q_und_s, q_app_n, q_app_c, q_mkL, q_gI_n, q_gI_i, q_gI_s, q_gS_n, q_gS_i, q_toL_n, q_toL_c, q_dget, q_dset_c, q_dset_n, q_cond_t, q_cond_f, q_for_n, q_for_c, q_allI_i, q_allI_s, q_allI_f, q_allN_n, q_allN_c, q_allK_n, q_allK_c, q_it_t, q_it_s, q_unr_n, q_unr_c, q_isD_none, q_isD_bool, q_isD_int, q_isD_str, q_isD_tup, q_isD_ints, q_isD_strs, q_isD_fdct, q_isD_undef, q_isD_dct, q_hasD_n, q_hasD_c, q_flat_none, q_flat_bool, q_flat_int, q_flat_str, q_flat_ints, q_flat_strs, q_flat_tup, q_flat_fdct, q_flat_dnil, q_flat_dcons, q_tor, q_for_b, q_tand, q_fand, q_nt, q_nf, u_done, u_set, u_set2, u_setD, u_setK, u_ifk, u_freeze, u_ret, u_cont, u_ifr, u_forr, u_ford, w_var, w_lit, w_un, w_bi, w_key, w_bo, w_ite, w_tup, w_call, w_lst, w_dict, w_anil, w_acons, ct_0, ct_1, ct_2, ct_3, ct_4, ct_5, ct_6, ct_7, ct_8, ct_9, ct_10, ct_11, ct_12, ct_13, ct_14, ct_15, ct_16, ct_17, ct_18, ct_19, ct_20, ct_21, ct_22, ct_23, ct_24, ct_25, ct_26, ct_27, Nat.reduceBEq, Nat.reduceAdd, List.map, List.contains, List.elem]
  refine ⟨fun n0 => ⟨fun e => ?_, fun n1 => ⟨fun n2 => ⟨fun e => ?_, fun n5 => ?_⟩, fun e => ⟨fun _ => ?_, nofun⟩⟩⟩, fun e => ⟨fun _ => ?_, nofun⟩⟩
  · cases eq_of_beq e; exact h _ (t_n Iff.rfl)
  · cases eq_of_beq e; exact h _ (t_n Int.not_lt)
  · by_cases e : op = 4
    · subst e; exact h _ t_e
    · have e : op = 3 := op3 ho n0 n1 n2 n5 e
      subst e; exact h _ (t_n Int.not_lt)
  · cases eq_of_beq e; exact h _ t_e
  · cases eq_of_beq e; exact h _ t_e
theorem f_law_true (w : World) (h : FS w 24) : FS w 25 := fs_succ h (show FSpec w 224 (24 + 10) T_law_true from by
  refine' fspec_of (n := 24) ns_law_true 3 0 ir_law_true (tabs w) (by decide) (by decide) h ?ho ?hcd ?hb ?hsc ?hco ?hgen ?hk ?hc ?hT
  case ho => k_is
  case hcd => k_is
  case hb =>
    intro vs hv
    obtain ⟨a0, a1, a2, rfl⟩ := len3 hv
    exact rfl
  case hsc => kernel_rfl!
  case hco => rfl
  case hgen => rfl
  case hk => rfl
  case hc => kernel_rfl!
  case hT => exact v_law_true)
theorem v_law_can : ∀ (args : List SV) (K : SV → Prop), T_law_can args K → args.length = 3 ∧ wpS CT ir_law_can (args ++ undefs 0) (fun _ => K .none) K (fun _ => False) := by
  rintro args K ⟨op, x0, x1, y0, y1, rfl, ho, h⟩
  refine ⟨rfl, ?_⟩
  dsimp only [ir_law_can, q_onB, q_onI, q_onS, q_onF, q_onL, q_onD, q_onT, q_onZ, q_onU_none, q_onU_bool, q_onU_int, q_onU_str, q_onU_tup, q_onU_ints, q_onU_strs, q_onU_fdct, q_un_neg, q_un_not, q_un_it0, q_un_it1, q_un_abs, q_un_mxL, q_un_mnL, q_un_one, q_bi_sub, q_bi_mul, q_bi_fdiv, q_bi_mod, q_bi_add, q_bi_lt, q_bi_le, q_bi_gt, q_bi_ge, q_bi_eq, q_bi_ne, q_bi_mx, q_bi_mn, q_cat, q_eq_s, q_eq_b, q_eq_n, q_eq_t, q_ne_s, q_ne_b, q_ne_n, q_ne_t, q_is_n, q_is_t, q_isnot_n, q_isnot_t, q_eqD_i, q_eqD_t, q_froz_n, q_froz_c, q_frz_none, q_frz_bool, q_frz_int, q_frz_str, q_frz_tup, q_frz_ints, q_frz_strs, q_frz_fdct, q_frz_undef, q_frz_dct, q_look_z, q_look_s, q_upd_z, q_upd_s, q_und_z, q_und_s, q_app_n, q_app_c, q_mkL, q_gI_n, q_gI_i, q_gI_s, q_gS_n, q_gS_i, q_toL_n, q_toL_c, q_dget, q_dset_c, q_dset_n, q_cond_t, q_cond_f, q_for_n, q_for_c, q_allI_i, q_allI_s, q_allI_f, q_allN_n, q_allN_c, q_allK_n, q_allK_c, q_it_t, q_it_s, q_unr_n, q_unr_c, q_isD_none, q_isD_bool, q_isD_int, q_isD_str, q_isD_tup, q_isD_ints, q_isD_strs, q_isD_fdct, q_isD_undef, q_isD_dct, q_hasD_n, q_hasD_c, q_flat_none, q_flat_bool, q_flat_int, q_flat_str, q_flat_ints, q_flat_strs, q_flat_tup, q_flat_fdct, q_flat_dnil, q_flat_dcons, q_tor, q_for_b, q_tand, q_fand, q_nt, q_nf, u_done, u_set, u_set2, u_setD, u_setK, u_ifk, u_freeze, u_ret, u_cont, u_ifr, u_forr, u_ford, w_var, w_lit, w_un, w_bi, w_key, w_bo, w_ite, w_tup, w_call, w_lst, w_dict, w_anil, w_acons, ct_0, ct_1, ct_2, ct_3, ct_4, ct_5, ct_6, ct_7, ct_8, ct_9, ct_10, ct_11, ct_12, ct_13, ct_14, ct_15, ct_16, ct_17, ct_18, ct_19, ct_20, ct_21, ct_22, ct_23, ct_24, ct_25, ct_26, ct_27, Nat.reduceBEq, Nat.reduceAdd, List.map, List.contains, List.elem]
  refine ⟨fun e => ?_, fun n0 => ⟨fun e => ?_, fun n1 => ⟨fun n2 => ⟨fun e => ?_, fun n3 => ?_⟩, fun e => ⟨fun _ => ?_, nofun⟩⟩⟩⟩
  · cases eq_of_beq e
    refine ⟨fun p => h _ (t_m ?_), fun p => h _ ?_⟩
    · exact ⟨fun k c => c.elim (of_decide_eq_false p) k, fun k c => k (.inr c)⟩
    · have := of_decide_eq_true p; show _ ↔ ¬ (x1 < y0 ∨ y1 < x0)
      exact ⟨nofun, fun q => absurd (.inl this) q⟩
  · cases eq_of_beq e
    refine ⟨fun p => ⟨fun q => h _ (t_m ?_), fun q => h _ ?_⟩, fun p => h _ ?_⟩
    · exact ⟨fun k c => k c.2.2, fun k c => k ⟨of_decide_eq_true p, of_decide_eq_true q, c⟩⟩
    · have := of_decide_eq_false q; exact ⟨fun _ c => this c.2.1, fun _ => rfl⟩
    · have := of_decide_eq_false p; exact ⟨fun _ c => this c.1, fun _ => rfl⟩
  · cases eq_of_beq e
    exact ⟨_, _, _, rfl, ho, fun q hq => h q (hq.trans (show x0 ≤ y1 ↔ ¬ ¬ x0 ≤ y1 from nni))⟩
  · by_cases e : op = 4
    · subst e; exact ⟨_, _, _, rfl, ho, fun q hq => h q (hq.trans (show y0 < x1 ↔ ¬ ¬ y0 < x1 from nni))⟩
    · have e : op = 5 := op5 ho n0 n1 n2 n3 (beq_eq_false_iff_ne.mpr e)
      subst e; exact ⟨_, _, _, rfl, ho, fun q hq => h q (hq.trans (show y0 ≤ x1 ↔ ¬ ¬ y0 ≤ x1 from nni))⟩
  · cases eq_of_beq e
    exact ⟨_, _, _, rfl, ho, fun q hq => h q (hq.trans (show x0 < y1 ↔ ¬ ¬ x0 < y1 from nni))⟩
theorem f_law_can (w : World) (h : FS w 25) : FS w 26 := fs_succ h (show FSpec w 231 (25 + 10) T_law_can from by
  refine' fspec_of (n := 25) ns_law_can 3 0 ir_law_can (tabs w) (by decide) (by decide) h ?ho ?hcd ?hb ?hsc ?hco ?hgen ?hk ?hc ?hT
  case ho => k_is
  case hcd => k_is
  case hb =>
    intro vs hv
    obtain ⟨a0, a1, a2, rfl⟩ := len3 hv
    exact rfl
  case hsc => kernel_rfl!
  case hco => rfl
  case hgen => rfl
  case hk => rfl
  case hc => kernel_rfl!
  case hT => exact v_law_can)

/-- x0 ≤ a ≤ x1 but a ≠ n -/
theorem wo_in {x0 x1 n : Int} (hx : x0 ≤ x1) (h : ¬ (x0 = n ∧ x1 = n)) : x0 ≤ wo0 x0 n ∧ wo1 x0 x1 n ≤ x1 ∧ ∀ a, x0 ≤ a → a ≤ x1 → a ≠ n → wo0 x0 n ≤ a ∧ a ≤ wo1 x0 x1 n := by
  unfold wo0 wo1
  by_cases r : x0 = n
  · rw [if_pos r, if_pos r]
    exact ⟨r ▸ Int.le_of_lt (Int.lt_succ _), Int.le_refl _, fun a h1 h2 h3 => ⟨Int.lt_iff_le_and_ne.mpr ⟨r ▸ h1, Ne.symm h3⟩, h2⟩⟩
  · rw [if_neg r, if_neg r]
    by_cases t : x1 = n
    · rw [if_pos t]
      exact ⟨Int.le_refl _, t ▸ Int.sub_le_self _ (by decide), fun a h1 h2 h3 => ⟨h1, Int.le_sub_one_of_lt (Int.lt_iff_le_and_ne.mpr ⟨t ▸ h2, h3⟩)⟩⟩
    · rw [if_neg t]; exact ⟨Int.le_refl _, Int.le_refl _, fun a h1 h2 _ => ⟨h1, h2⟩⟩
theorem wo_if {x0 x1 y0 y1 : Int} (hx : x0 ≤ x1) (h : ¬ (x0 = x1 ∧ y0 = y1 ∧ x0 = y0)) : x0 ≤ (if y0 = y1 then wo0 x0 y0 else x0) ∧ (if y0 = y1 then wo1 x0 x1 y0 else x1) ≤ x1 ∧ ∀ a b, x0 ≤ a → a ≤ x1 → y0 ≤ b → b ≤ y1 → a ≠ b → (if y0 = y1 then wo0 x0 y0 else x0) ≤ a ∧ a ≤ (if y0 = y1 then wo1 x0 x1 y0 else x1) := by
  by_cases p : y0 = y1
  · rw [if_pos p, if_pos p]
    obtain ⟨h1, h2, h3⟩ := wo_in hx fun e => h ⟨e.1.trans e.2.symm, p, e.1⟩
    exact ⟨h1, h2, fun a b q1 q2 q3 q4 q5 => h3 a q1 q2 fun e => q5 (e.trans (Int.le_antisymm q3 (p ▸ q4)))⟩
  · rw [if_neg p, if_neg p]; exact ⟨Int.le_refl _, Int.le_refl _, fun a b h1 h2 _ _ _ => ⟨h1, h2⟩⟩
theorem narj_ap {x0 x1 y0 y1 : Int} (hx : x0 ≤ x1) (hy : y0 ≤ y1) (h : ¬ (x0 = x1 ∧ y0 = y1 ∧ x0 = y0)) : NarJ (rel 1) x0 x1 y0 y1 (if y0 = y1 then wo0 x0 y0 else x0) (if y0 = y1 then wo1 x0 x1 y0 else x1) (if x0 = x1 then wo0 y0 x0 else y0) (if x0 = x1 then wo1 y0 y1 x0 else y1) :=
  have a := wo_if hx h
  have b := wo_if hy fun e => h ⟨e.2.1, e.1, e.2.2.symm⟩
  ⟨a.1, a.2.1, b.1, b.2.1, fun u v q1 q2 q3 q4 q5 => ⟨(a.2.2 u v q1 q2 q3 q4 q5).1, (a.2.2 u v q1 q2 q3 q4 q5).2, (b.2.2 v u q3 q4 q1 q2 (Ne.symm q5)).1, (b.2.2 v u q3 q4 q1 q2 (Ne.symm q5)).2⟩⟩
noncomputable def ir_n2 : IS := .ifr (.bo true (.call 24 (.acons 0 (.var 4) (.acons 0 (.var 6) (.acons 0 (.var 7) .anil)))) (.un .one (.un .not (.bo true (.call 9 (.acons 0 (.un .it0 (.var 5)) (.acons 0 (.var 6) .anil))) (.un .one (.call 9 (.acons 0 (.un .it1 (.var 5)) (.acons 0 (.var 7) .anil)))))))) (.ret (.lit (.bool false))) 
              (.ifr (.bi .eq (.call 24 (.acons 0 (.call 18 (.acons 0 (.var 4) .anil)) (.acons 0 (.var 6) (.acons 0 (.var 7) .anil)))) (.call 24 (.acons 0 (.var 4) (.acons 0 (.var 6) (.acons 0 (.var 7) .anil))))) (.ret (.lit (.bool false))) .done)
noncomputable def ir_n1 : IS := .set 5 (.call 17 (.acons 0 (.var 4) (.acons 0 (.var 0) (.acons 0 (.var 1) .anil)))) 
      (.ifr (.bi .ne (.call 25 (.acons 0 (.var 4) (.acons 0 (.var 0) (.acons 0 (.var 1) .anil)))) (.bi .isnot (.var 5) (.lit .none))) (.ret (.lit (.bool false))) 
      (.ifr (.bi .is (.var 5) (.lit .none)) (.cont) 
      (.ifr (.bo false (.un .not (.call 10 (.acons 0 (.un .it0 (.var 5)) (.acons 0 (.var 0) .anil)))) (.un .one (.un .not (.call 10 (.acons 0 (.un .it1 (.var 5)) (.acons 0 (.var 1) .anil)))))) (.ret (.lit (.bool false))) 
      (.forr 6 [7] (.var 2) (.forr 7 [] (.var 3) ir_n2 .done) .done))))
noncomputable def ir_nn : IS := .forr 4 [5, 6, 7] (.lst (.acons 0 (.lit (.str 0)) (.acons 0 (.lit (.str 1)) (.acons 0 (.lit (.str 2)) (.acons 0 (.lit (.str 3)) (.acons 0 (.lit (.str 4)) (.acons 0 (.lit (.str 5)) .anil))))))) ir_n1 (.ret (.bi .eq (.call 16 (.acons 0 (.var 0) (.acons 0 (.var 1) .anil))) (.call 17 (.acons 0 (.lit (.str 1)) (.acons 0 (.var 0) (.acons 0 (.var 1) .anil))))))
section
variable {rt : SV → Prop} {op : Nat} {x0 x1 y0 y1 a0 a1 b0 b1 a b : Int} {fs ss : List Int}
theorem na_of {K : SV → Prop} (hx : x0 ≤ x1) (hy : y0 ≤ y1) (h : naK op x0 x1 y0 y1 K) : (op ≠ 1 → naK op x0 x1 y0 y1 K) ∧ (op = 1 → apK x0 x1 y0 y1 K) :=
  ⟨fun _ => h, fun e => by subst e; exact ⟨h.1, fun n => h.2 n _ _ _ _ (narj_ap hx hy n)⟩⟩
theorem rel_opp (ho : op < 6) : rel (opp op) a b ↔ ¬ rel op a b :=
  lt6 (P := fun op => rel (opp op) a b ↔ ¬ rel op a b) Iff.rfl (show a = b ↔ ¬ a ≠ b from Decidable.not_not.symm) Int.not_lt.symm Int.not_le.symm Int.not_lt.symm Int.not_le.symm ho
theorem opp_lt (ho : op < 6) : opp op < 6 := lt6 (P := fun op => opp op < 6) (by decide) (by decide) (by decide) (by decide) (by decide) (by decide) ho
theorem nr_2 (ho : op < 6) (hf : rel op a b → a0 ≤ a ∧ a ≤ a1 ∧ b0 ≤ b ∧ b ≤ b1) :
    wpS CT ir_n2 [iv x0 x1, iv y0 y1, .ints fs, .ints ss, .str op, .tup (iv a0 a1) (iv b0 b1), .int a, .int b] (fun _ => True) rt (fun _ => True) := by
  dsimp only [ir_n2, q_onB, q_onI, q_onS, q_onF, q_onL, q_onD, q_onT, q_onZ, q_onU_none, q_onU_bool, q_onU_int, q_onU_str, q_onU_tup, q_onU_ints, q_onU_strs, q_onU_fdct, q_un_neg, q_un_not, q_un_it0, q_un_it1, q_un_abs, q_un_mxL, q_un_mnL, q_un_one, q_bi_sub, q_bi_mul, q_bi_fdiv, q_bi_mod, q_bi_add, q_bi_lt, q_bi_le, q_bi_gt, q_bi_ge, q_bi_eq, q_bi_ne, q_bi_mx, q_bi_mn, q_cat, q_eq_s, q_eq_b, q_eq_n, q_eq_t, q_ne_s, q_ne_b, q_ne_n, q_ne_t, q_is_n, q_is_t, q_isnot_n, q_isnot_t, q_eqD_i, q_eqD_t, q_froz_n, q_froz_c, q_frz_none, q_frz_bool, q_frz_int, q_frz_str, q_frz_tup, q_frz_ints, q_frz_strs, q_frz_fdct, q_frz_undef, q_frz_dct, q_look_z, q_look_s, q_upd_z, q_upd_s, q_und_z, q_und_s, q_app_n, q_app_c, q_mkL, q_gI_n, q_gI_i, q_gI_s, q_gS_n, q_gS_i, q_toL_n, q_toL_c, q_dget, q_dset_c, q_dset_n, q_cond_t, q_cond_f, q_for_n, q_for_c, q_allI_i, q_allI_s, q_allI_f, q_allN_n, q_allN_c, q_allK_n, q_allK_c, q_it_t, q_it_s, q_unr_n, q_unr_c, q_isD_none, q_isD_bool, q_isD_int, q_isD_str, q_isD_tup, q_isD_ints, q_isD_strs, q_isD_fdct, q_isD_undef, q_isD_dct, q_hasD_n, q_hasD_c, q_flat_none, q_flat_bool, q_flat_int, q_flat_str, q_flat_ints, q_flat_strs, q_flat_tup, q_flat_fdct, q_flat_dnil, q_flat_dcons, q_tor, q_for_b, q_tand, q_fand, q_nt, q_nf, u_done, u_set, u_set2, u_setD, u_setK, u_ifk, u_freeze, u_ret, u_cont, u_ifr, u_forr, u_ford, w_var, w_lit, w_un, w_bi, w_key, w_bo, w_ite, w_tup, w_call, w_lst, w_dict, w_anil, w_acons, ct_0, ct_1, ct_2, ct_3, ct_4, ct_5, ct_6, ct_7, ct_8, ct_9, ct_10, ct_11, ct_12, ct_13, ct_14, ct_15, ct_16, ct_17, ct_18, ct_19, ct_20, ct_21, ct_22, ct_23, ct_24, ct_25, ct_26, ct_27, Nat.reduceBEq, Nat.reduceAdd, List.map, List.contains, List.elem]
  have rest : T_opposite [SV.str op] fun v => T_law_true [v, .int a, .int b] fun sa => T_law_true [.str op, .int a, .int b] fun sb => biS .eq sa sb (onB fun b => (b = true → rt (.bool false)) ∧ (b = false → True)) := by
    refine ⟨_, rfl, ho, _, _, _, rfl, opp_lt ho, fun q hq => ⟨_, _, _, rfl, ho, fun q2 hq2 => ?_⟩⟩
    dsimp only [q_onB, q_onI, q_onS, q_onF, q_onL, q_onD, q_onT, q_onZ, q_onU_none, q_onU_bool, q_onU_int, q_onU_str, q_onU_tup, q_onU_ints, q_onU_strs, q_onU_fdct, q_un_neg, q_un_not, q_un_it0, q_un_it1, q_un_abs, q_un_mxL, q_un_mnL, q_un_one, q_bi_sub, q_bi_mul, q_bi_fdiv, q_bi_mod, q_bi_add, q_bi_lt, q_bi_le, q_bi_gt, q_bi_ge, q_bi_eq, q_bi_ne, q_bi_mx, q_bi_mn, q_cat, q_eq_s, q_eq_b, q_eq_n, q_eq_t, q_ne_s, q_ne_b, q_ne_n, q_ne_t, q_is_n, q_is_t, q_isnot_n, q_isnot_t, q_eqD_i, q_eqD_t, q_froz_n, q_froz_c, q_frz_none, q_frz_bool, q_frz_int, q_frz_str, q_frz_tup, q_frz_ints, q_frz_strs, q_frz_fdct, q_frz_undef, q_frz_dct, q_look_z, q_look_s, q_upd_z, q_upd_s, q_und_z, q_und_s, q_app_n, q_app_c, q_mkL, q_gI_n, q_gI_i, q_gI_s, q_gS_n, q_gS_i, q_toL_n, q_toL_c, q_dget, q_dset_c, q_dset_n, q_cond_t, q_cond_f, q_for_n, q_for_c, q_allI_i, q_allI_s, q_allI_f, q_allN_n, q_allN_c, q_allK_n, q_allK_c, q_it_t, q_it_s, q_unr_n, q_unr_c, q_isD_none, q_isD_bool, q_isD_int, q_isD_str, q_isD_tup, q_isD_ints, q_isD_strs, q_isD_fdct, q_isD_undef, q_isD_dct, q_hasD_n, q_hasD_c, q_flat_none, q_flat_bool, q_flat_int, q_flat_str, q_flat_ints, q_flat_strs, q_flat_tup, q_flat_fdct, q_flat_dnil, q_flat_dcons, q_tor, q_for_b, q_tand, q_fand, q_nt, q_nf, u_done, u_set, u_set2, u_setD, u_setK, u_ifk, u_freeze, u_ret, u_cont, u_ifr, u_forr, u_ford, w_var, w_lit, w_un, w_bi, w_key, w_bo, w_ite, w_tup, w_call, w_lst, w_dict, w_anil, w_acons, ct_0, ct_1, ct_2, ct_3, ct_4, ct_5, ct_6, ct_7, ct_8, ct_9, ct_10, ct_11, ct_12, ct_13, ct_14, ct_15, ct_16, ct_17, ct_18, ct_19, ct_20, ct_21, ct_22, ct_23, ct_24, ct_25, ct_26, ct_27, Nat.reduceBEq, Nat.reduceAdd, List.map, List.contains, List.elem]
    refine ⟨fun e => ?_, fun _ => trivial⟩
    have e := eq_of_beq e
    subst e
    exact (iff_not_self ((hq2.symm.trans hq).trans (rel_opp ho))).elim
  refine ⟨_, _, _, rfl, ho, fun q hq => ?_⟩
  cases q with
  | false => exact ⟨nofun, fun _ => ⟨nofun, fun _ => rest⟩⟩
  | true =>
    obtain ⟨e1, e2, e3, e4⟩ := hf (hq.mp rfl)
    exact ⟨fun _ => ⟨_, _, _, rfl, fun _ => ⟨_, _, _, rfl, fun e => absurd ⟨e3, e4⟩ (of_decide_eq_false (bnot e)), fun _ => rest⟩, fun e => absurd ⟨e1, e2⟩ (of_decide_eq_false e)⟩, nofun⟩
theorem nr_1 (ho : op < 6) (hX : Rg x0 x1) (hY : Rg y0 y1) (mf : Mem4 x0 x1 fs) (ms : Mem4 y0 y1 ss) :
    wpS CT ir_n1 [iv x0 x1, iv y0 y1, .ints fs, .ints ss, .str op, .undef, .undef, .undef] (fun _ => True) rt (fun _ => True) := by
  dsimp only [ir_n1, q_onB, q_onI, q_onS, q_onF, q_onL, q_onD, q_onT, q_onZ, q_onU_none, q_onU_bool, q_onU_int, q_onU_str, q_onU_tup, q_onU_ints, q_onU_strs, q_onU_fdct, q_un_neg, q_un_not, q_un_it0, q_un_it1, q_un_abs, q_un_mxL, q_un_mnL, q_un_one, q_bi_sub, q_bi_mul, q_bi_fdiv, q_bi_mod, q_bi_add, q_bi_lt, q_bi_le, q_bi_gt, q_bi_ge, q_bi_eq, q_bi_ne, q_bi_mx, q_bi_mn, q_cat, q_eq_s, q_eq_b, q_eq_n, q_eq_t, q_ne_s, q_ne_b, q_ne_n, q_ne_t, q_is_n, q_is_t, q_isnot_n, q_isnot_t, q_eqD_i, q_eqD_t, q_froz_n, q_froz_c, q_frz_none, q_frz_bool, q_frz_int, q_frz_str, q_frz_tup, q_frz_ints, q_frz_strs, q_frz_fdct, q_frz_undef, q_frz_dct, q_look_z, q_look_s, q_upd_z, q_upd_s, q_und_z, q_und_s, q_app_n, q_app_c, q_mkL, q_gI_n, q_gI_i, q_gI_s, q_gS_n, q_gS_i, q_toL_n, q_toL_c, q_dget, q_dset_c, q_dset_n, q_cond_t, q_cond_f, q_for_n, q_for_c, q_allI_i, q_allI_s, q_allI_f, q_allN_n, q_allN_c, q_allK_n, q_allK_c, q_it_t, q_it_s, q_unr_n, q_unr_c, q_isD_none, q_isD_bool, q_isD_int, q_isD_str, q_isD_tup, q_isD_ints, q_isD_strs, q_isD_fdct, q_isD_undef, q_isD_dct, q_hasD_n, q_hasD_c, q_flat_none, q_flat_bool, q_flat_int, q_flat_str, q_flat_ints, q_flat_strs, q_flat_tup, q_flat_fdct, q_flat_dnil, q_flat_dcons, q_tor, q_for_b, q_tand, q_fand, q_nt, q_nf, u_done, u_set, u_set2, u_setD, u_setK, u_ifk, u_freeze, u_ret, u_cont, u_ifr, u_forr, u_ford, w_var, w_lit, w_un, w_bi, w_key, w_bo, w_ite, w_tup, w_call, w_lst, w_dict, w_anil, w_acons, ct_0, ct_1, ct_2, ct_3, ct_4, ct_5, ct_6, ct_7, ct_8, ct_9, ct_10, ct_11, ct_12, ct_13, ct_14, ct_15, ct_16, ct_17, ct_18, ct_19, ct_20, ct_21, ct_22, ct_23, ct_24, ct_25, ct_26, ct_27, Nat.reduceBEq, Nat.reduceAdd, List.map, List.contains, List.elem]
  refine ⟨_, _, _, _, _, rfl, ⟨ho, hX, hY⟩, na_of hX.1 hY.1 ⟨fun n => ?_, fun n a0 a1 b0 b1 J => ?_⟩⟩
  all_goals dsimp only [q_onB, q_onI, q_onS, q_onF, q_onL, q_onD, q_onT, q_onZ, q_onU_none, q_onU_bool, q_onU_int, q_onU_str, q_onU_tup, q_onU_ints, q_onU_strs, q_onU_fdct, q_un_neg, q_un_not, q_un_it0, q_un_it1, q_un_abs, q_un_mxL, q_un_mnL, q_un_one, q_bi_sub, q_bi_mul, q_bi_fdiv, q_bi_mod, q_bi_add, q_bi_lt, q_bi_le, q_bi_gt, q_bi_ge, q_bi_eq, q_bi_ne, q_bi_mx, q_bi_mn, q_cat, q_eq_s, q_eq_b, q_eq_n, q_eq_t, q_ne_s, q_ne_b, q_ne_n, q_ne_t, q_is_n, q_is_t, q_isnot_n, q_isnot_t, q_eqD_i, q_eqD_t, q_froz_n, q_froz_c, q_frz_none, q_frz_bool, q_frz_int, q_frz_str, q_frz_tup, q_frz_ints, q_frz_strs, q_frz_fdct, q_frz_undef, q_frz_dct, q_look_z, q_look_s, q_upd_z, q_upd_s, q_und_z, q_und_s, q_app_n, q_app_c, q_mkL, q_gI_n, q_gI_i, q_gI_s, q_gS_n, q_gS_i, q_toL_n, q_toL_c, q_dget, q_dset_c, q_dset_n, q_cond_t, q_cond_f, q_for_n, q_for_c, q_allI_i, q_allI_s, q_allI_f, q_allN_n, q_allN_c, q_allK_n, q_allK_c, q_it_t, q_it_s, q_unr_n, q_unr_c, q_isD_none, q_isD_bool, q_isD_int, q_isD_str, q_isD_tup, q_isD_ints, q_isD_strs, q_isD_fdct, q_isD_undef, q_isD_dct, q_hasD_n, q_hasD_c, q_flat_none, q_flat_bool, q_flat_int, q_flat_str, q_flat_ints, q_flat_strs, q_flat_tup, q_flat_fdct, q_flat_dnil, q_flat_dcons, q_tor, q_for_b, q_tand, q_fand, q_nt, q_nf, u_done, u_set, u_set2, u_setD, u_setK, u_ifk, u_freeze, u_ret, u_cont, u_ifr, u_forr, u_ford, w_var, w_lit, w_un, w_bi, w_key, w_bo, w_ite, w_tup, w_call, w_lst, w_dict, w_anil, w_acons, ct_0, ct_1, ct_2, ct_3, ct_4, ct_5, ct_6, ct_7, ct_8, ct_9, ct_10, ct_11, ct_12, ct_13, ct_14, ct_15, ct_16, ct_17, ct_18, ct_19, ct_20, ct_21, ct_22, ct_23, ct_24, ct_25, ct_26, ct_27, Nat.reduceBEq, Nat.reduceAdd, List.map, List.contains, List.elem]
  · refine ⟨rfl, _, _, _, _, _, rfl, ho, fun q hq => ?_⟩
    cases q with
    | true => exact absurd n (hq.mp rfl)
    | false => exact ⟨nofun, fun _ => ⟨fun _ => trivial, nofun⟩⟩
  · refine ⟨rfl, _, _, _, _, _, rfl, ho, fun q hq => ?_⟩
    cases q with
    | false => exact absurd (hq.mpr n) nofun
    | true =>
      obtain ⟨j1, j2, j3, j4, j5⟩ := J
      exact ⟨nofun, fun _ => ⟨nofun, fun _ => ⟨_, _, _, _, rfl, fun _ => ⟨_, _, _, _, rfl, fun e => absurd ⟨j3, j4⟩ (of_decide_eq_false (bnot e)), fun _ => ⟨rfl, fun a ma => ⟨rfl, fun b mb => nr_2 ho fun r => j5 a b (mf a ma).1 (mf a ma).2 (ms b mb).1 (ms b mb).2 r, trivial⟩, trivial⟩⟩, fun e => absurd ⟨j1, j2⟩ (of_decide_eq_false (bnot e))⟩⟩⟩
end
theorem v_law_narrowed : ∀ (args : List SV) (K : SV → Prop), T_law_narrowed args K → args.length = 4 ∧ wpS CT ir_law_narrowed (args ++ undefs 4) (fun _ => K .none) K (fun _ => False) := by
  rintro args K ⟨x0, x1, y0, y1, fs, ss, rfl, ⟨hX, hY, mf, ms, hl⟩, h⟩
  refine ⟨rfl, ?_⟩
  show wpS CT ir_nn _ _ _ _
  dsimp only [ir_nn, q_onB, q_onI, q_onS, q_onF, q_onL, q_onD, q_onT, q_onZ, q_onU_none, q_onU_bool, q_onU_int, q_onU_str, q_onU_tup, q_onU_ints, q_onU_strs, q_onU_fdct, q_un_neg, q_un_not, q_un_it0, q_un_it1, q_un_abs, q_un_mxL, q_un_mnL, q_un_one, q_bi_sub, q_bi_mul, q_bi_fdiv, q_bi_mod, q_bi_add, q_bi_lt, q_bi_le, q_bi_gt, q_bi_ge, q_bi_eq, q_bi_ne, q_bi_mx, q_bi_mn, q_cat, q_eq_s, q_eq_b, q_eq_n, q_eq_t, q_ne_s, q_ne_b, q_ne_n, q_ne_t, q_is_n, q_is_t, q_isnot_n, q_isnot_t, q_eqD_i, q_eqD_t, q_froz_n, q_froz_c, q_frz_none, q_frz_bool, q_frz_int, q_frz_str, q_frz_tup, q_frz_ints, q_frz_strs, q_frz_fdct, q_frz_undef, q_frz_dct, q_look_z, q_look_s, q_upd_z, q_upd_s, q_und_z, q_und_s, q_app_n, q_app_c, q_mkL, q_gI_n, q_gI_i, q_gI_s, q_gS_n, q_gS_i, q_toL_n, q_toL_c, q_dget, q_dset_c, q_dset_n, q_cond_t, q_cond_f, q_for_n, q_for_c, q_allI_i, q_allI_s, q_allI_f, q_allN_n, q_allN_c, q_allK_n, q_allK_c, q_it_t, q_it_s, q_unr_n, q_unr_c, q_isD_none, q_isD_bool, q_isD_int, q_isD_str, q_isD_tup, q_isD_ints, q_isD_strs, q_isD_fdct, q_isD_undef, q_isD_dct, q_hasD_n, q_hasD_c, q_flat_none, q_flat_bool, q_flat_int, q_flat_str, q_flat_ints, q_flat_strs, q_flat_tup, q_flat_fdct, q_flat_dnil, q_flat_dcons, q_tor, q_for_b, q_tand, q_fand, q_nt, q_nf, u_done, u_set, u_set2, u_setD, u_setK, u_ifk, u_freeze, u_ret, u_cont, u_ifr, u_forr, u_ford, w_var, w_lit, w_un, w_bi, w_key, w_bo, w_ite, w_tup, w_call, w_lst, w_dict, w_anil, w_acons, ct_0, ct_1, ct_2, ct_3, ct_4, ct_5, ct_6, ct_7, ct_8, ct_9, ct_10, ct_11, ct_12, ct_13, ct_14, ct_15, ct_16, ct_17, ct_18, ct_19, ct_20, ct_21, ct_22, ct_23, ct_24, ct_25, ct_26, ct_27, Nat.reduceBEq, Nat.reduceAdd, List.map, List.contains, List.elem]
  refine ⟨rfl, ⟨nr_1 (by decide) hX hY mf ms, nr_1 (by decide) hX hY mf ms, nr_1 (by decide) hX hY mf ms, nr_1 (by decide) hX hY mf ms, nr_1 (by decide) hX hY mf ms, nr_1 (by decide) hX hY mf ms, trivial⟩, ?_⟩
  refine ⟨_, _, _, _, rfl, ⟨hX, hY⟩, fun n => ⟨_, _, _, _, _, rfl, ⟨by decide, hX, hY⟩, nofun, fun _ => ⟨fun _ => ?_, fun m => absurd n m⟩⟩, fun n => ⟨_, _, _, _, _, rfl, ⟨by decide, hX, hY⟩, nofun, fun _ => ⟨fun m => absurd m n, fun _ => ?_⟩⟩⟩
  · dsimp only [q_onB, q_onI, q_onS, q_onF, q_onL, q_onD, q_onT, q_onZ, q_onU_none, q_onU_bool, q_onU_int, q_onU_str, q_onU_tup, q_onU_ints, q_onU_strs, q_onU_fdct, q_un_neg, q_un_not, q_un_it0, q_un_it1, q_un_abs, q_un_mxL, q_un_mnL, q_un_one, q_bi_sub, q_bi_mul, q_bi_fdiv, q_bi_mod, q_bi_add, q_bi_lt, q_bi_le, q_bi_gt, q_bi_ge, q_bi_eq, q_bi_ne, q_bi_mx, q_bi_mn, q_cat, q_eq_s, q_eq_b, q_eq_n, q_eq_t, q_ne_s, q_ne_b, q_ne_n, q_ne_t, q_is_n, q_is_t, q_isnot_n, q_isnot_t, q_eqD_i, q_eqD_t, q_froz_n, q_froz_c, q_frz_none, q_frz_bool, q_frz_int, q_frz_str, q_frz_tup, q_frz_ints, q_frz_strs, q_frz_fdct, q_frz_undef, q_frz_dct, q_look_z, q_look_s, q_upd_z, q_upd_s, q_und_z, q_und_s, q_app_n, q_app_c, q_mkL, q_gI_n, q_gI_i, q_gI_s, q_gS_n, q_gS_i, q_toL_n, q_toL_c, q_dget, q_dset_c, q_dset_n, q_cond_t, q_cond_f, q_for_n, q_for_c, q_allI_i, q_allI_s, q_allI_f, q_allN_n, q_allN_c, q_allK_n, q_allK_c, q_it_t, q_it_s, q_unr_n, q_unr_c, q_isD_none, q_isD_bool, q_isD_int, q_isD_str, q_isD_tup, q_isD_ints, q_isD_strs, q_isD_fdct, q_isD_undef, q_isD_dct, q_hasD_n, q_hasD_c, q_flat_none, q_flat_bool, q_flat_int, q_flat_str, q_flat_ints, q_flat_strs, q_flat_tup, q_flat_fdct, q_flat_dnil, q_flat_dcons, q_tor, q_for_b, q_tand, q_fand, q_nt, q_nf, u_done, u_set, u_set2, u_setD, u_setK, u_ifk, u_freeze, u_ret, u_cont, u_ifr, u_forr, u_ford, w_var, w_lit, w_un, w_bi, w_key, w_bo, w_ite, w_tup, w_call, w_lst, w_dict, w_anil, w_acons, ct_0, ct_1, ct_2, ct_3, ct_4, ct_5, ct_6, ct_7, ct_8, ct_9, ct_10, ct_11, ct_12, ct_13, ct_14, ct_15, ct_16, ct_17, ct_18, ct_19, ct_20, ct_21, ct_22, ct_23, ct_24, ct_25, ct_26, ct_27, Nat.reduceBEq, Nat.reduceAdd, List.map, List.contains, List.elem]
    exact h
  · generalize (if y0 = y1 then wo0 x0 y0 else x0) = p1, (if y0 = y1 then wo1 x0 x1 y0 else x1) = p2, (if x0 = x1 then wo0 y0 x0 else y0) = p3, (if x0 = x1 then wo1 y0 y1 x0 else y1) = p4
    dsimp only [q_onB, q_onI, q_onS, q_onF, q_onL, q_onD, q_onT, q_onZ, q_onU_none, q_onU_bool, q_onU_int, q_onU_str, q_onU_tup, q_onU_ints, q_onU_strs, q_onU_fdct, q_un_neg, q_un_not, q_un_it0, q_un_it1, q_un_abs, q_un_mxL, q_un_mnL, q_un_one, q_bi_sub, q_bi_mul, q_bi_fdiv, q_bi_mod, q_bi_add, q_bi_lt, q_bi_le, q_bi_gt, q_bi_ge, q_bi_eq, q_bi_ne, q_bi_mx, q_bi_mn, q_cat, q_eq_s, q_eq_b, q_eq_n, q_eq_t, q_ne_s, q_ne_b, q_ne_n, q_ne_t, q_is_n, q_is_t, q_isnot_n, q_isnot_t, q_eqD_i, q_eqD_t, q_froz_n, q_froz_c, q_frz_none, q_frz_bool, q_frz_int, q_frz_str, q_frz_tup, q_frz_ints, q_frz_strs, q_frz_fdct, q_frz_undef, q_frz_dct, q_look_z, q_look_s, q_upd_z, q_upd_s, q_und_z, q_und_s, q_app_n, q_app_c, q_mkL, q_gI_n, q_gI_i, q_gI_s, q_gS_n, q_gS_i, q_toL_n, q_toL_c, q_dget, q_dset_c, q_dset_n, q_cond_t, q_cond_f, q_for_n, q_for_c, q_allI_i, q_allI_s, q_allI_f, q_allN_n, q_allN_c, q_allK_n, q_allK_c, q_it_t, q_it_s, q_unr_n, q_unr_c, q_isD_none, q_isD_bool, q_isD_int, q_isD_str, q_isD_tup, q_isD_ints, q_isD_strs, q_isD_fdct, q_isD_undef, q_isD_dct, q_hasD_n, q_hasD_c, q_flat_none, q_flat_bool, q_flat_int, q_flat_str, q_flat_ints, q_flat_strs, q_flat_tup, q_flat_fdct, q_flat_dnil, q_flat_dcons, q_tor, q_for_b, q_tand, q_fand, q_nt, q_nf, u_done, u_set, u_set2, u_setD, u_setK, u_ifk, u_freeze, u_ret, u_cont, u_ifr, u_forr, u_ford, w_var, w_lit, w_un, w_bi, w_key, w_bo, w_ite, w_tup, w_call, w_lst, w_dict, w_anil, w_acons, ct_0, ct_1, ct_2, ct_3, ct_4, ct_5, ct_6, ct_7, ct_8, ct_9, ct_10, ct_11, ct_12, ct_13, ct_14, ct_15, ct_16, ct_17, ct_18, ct_19, ct_20, ct_21, ct_22, ct_23, ct_24, ct_25, ct_26, ct_27, Nat.reduceBEq, Nat.reduceAdd, List.map, List.contains, List.elem]
    have d : ∀ p : Int, decide (p = p) = true := fun p => decide_eq_true rfl
    rw [d, d, d, d]
    exact ⟨rfl, h⟩
theorem f_law_narrowed (w : World) (h : FS w 26) : FS w 27 := fs_succ h (show FSpec w 238 (26 + 10) T_law_narrowed from by
  refine' fspec_of (n := 26) ns_law_narrowed 4 4 ir_law_narrowed (tabs w) (by decide) (by decide) h ?ho ?hcd ?hb ?hsc ?hco ?hgen ?hk ?hc ?hT
  case ho => k_is
  case hcd => k_is
  case hb =>
    intro vs hv
    obtain ⟨a0, a1, a2, a3, rfl⟩ := len4 hv
    exact rfl
  case hsc => kernel_rfl!
  case hco => rfl
  case hgen => rfl
  case hk => rfl
  case hc => kernel_rfl!
  case hT => exact v_law_narrowed)

noncomputable def ir_tb : IS := .ifr (.bi .ne (.var 8) (.bo true (.bi .isnot (.var 6) (.lit .none)) (.un .one (.call 9 (.acons 0 (.var 6) (.acons 0 (.var 7) .anil)))))) (.ret (.lit (.bool false))) 
      (.ifr (.bo false (.un .not (.call 9 (.acons 0 (.var 4) (.acons 0 (.var 7) .anil)))) (.un .one (.un .not (.call 9 (.acons 0 (.var 5) (.acons 0 (.var 7) .anil)))))) (.ret (.lit (.bool false))) .done)
noncomputable def ir_t1 : IS := .set 8 (.bo true (.bi .le (.un .it0 (.var 0)) (.var 7)) (.bo true (.bi .le (.var 7) (.un .it1 (.var 0))) (.bo true (.bi .le (.un .it0 (.var 1)) (.var 7)) (.un .one (.bi .le (.var 7) (.un .it1 (.var 1))))))) ir_tb
noncomputable def ir_t5 : IS := .forr 7 [8] (.bi .add (.var 2) (.var 3)) ir_t1 
  (.ret (.bi .eq (.bi .is (.var 6) (.lit .none)) (.bo false (.bi .lt (.un .it1 (.var 0)) (.un .it0 (.var 1))) (.un .one (.bi .lt (.un .it1 (.var 1)) (.un .it0 (.var 0)))))))
noncomputable def ir_t4 : IS := .ifr (.bi .ne (.call 10 (.acons 0 (.var 0) (.acons 0 (.var 1) .anil))) (.bi .eq (.var 4) (.var 1))) (.ret (.lit (.bool false))) ir_t5
noncomputable def ir_t2 : IS := .ifr (.bi .ne (.var 4) (.tup (.bi .mn (.un .it0 (.var 0)) (.un .it0 (.var 1))) (.bi .mx (.un .it1 (.var 0)) (.un .it1 (.var 1))))) (.ret (.lit (.bool false))) 
  (.ifr (.bo false (.bi .ne (.un .it0 (.var 5)) (.ite (.bi .ge (.un .it0 (.var 1)) (.un .it0 (.var 0))) (.un .it0 (.var 0)) (.un .neg (.lit (.int 2147483648))))) (.un .one (.bi .ne (.un .it1 (.var 5)) (.ite (.bi .le (.un .it1 (.var 1)) (.un .it1 (.var 0))) (.un .it1 (.var 0)) (.lit (.int 2147483647)))))) (.ret (.lit (.bool false))) ir_t4)
noncomputable def ir_tt : IS := .set 4 (.call 11 (.acons 0 (.var 0) (.acons 0 (.var 1) .anil))) 
  (.set 5 (.call 12 (.acons 0 (.var 0) (.acons 0 (.var 1) .anil))) 
  (.set 6 (.call 13 (.acons 0 (.var 0) (.acons 0 (.var 1) .anil))) ir_t2))
section
variable {rt : SV → Prop} {x0 x1 y0 y1 n : Int} {M : SV} {fs ss : List Int}
noncomputable def wi0 (x0 y0 : Int) : Int := if x0 ≤ y0 then x0 else -2147483648
noncomputable def wi1 (x1 y1 : Int) : Int := if y1 ≤ x1 then x1 else 2147483647
theorem in_hull (hn : x0 ≤ n ∧ n ≤ x1 ∨ y0 ≤ n ∧ n ≤ y1) : min x0 y0 ≤ n ∧ n ≤ max x1 y1 :=
  hn.elim (fun h => ⟨Int.le_trans (Int.min_le_left _ _) h.1, Int.le_trans h.2 (Int.le_max_left _ _)⟩) fun h => ⟨Int.le_trans (Int.min_le_right _ _) h.1, Int.le_trans h.2 (Int.le_max_right _ _)⟩
theorem wi0_le (h0 : -2147483648 ≤ x0) (h1 : -2147483648 ≤ y0) (hn : x0 ≤ n ∨ y0 ≤ n) : wi0 x0 y0 ≤ n := by
  unfold wi0
  by_cases p : x0 ≤ y0
  · rw [if_pos p]; exact hn.elim id fun h => Int.le_trans p h
  · rw [if_neg p]; exact hn.elim (fun h => Int.le_trans h0 h) fun h => Int.le_trans h1 h
theorem wi1_le (h0 : x1 ≤ 2147483647) (h1 : y1 ≤ 2147483647) (hn : n ≤ x1 ∨ n ≤ y1) : n ≤ wi1 x1 y1 := by
  unfold wi1
  by_cases p : y1 ≤ x1
  · rw [if_pos p]; exact hn.elim id fun h => Int.le_trans h p
  · rw [if_neg p]; exact hn.elim (fun h => Int.le_trans h h0) fun h => Int.le_trans h h1
theorem in_wide (hX : Rg x0 x1) (hY : Rg y0 y1) (hn : x0 ≤ n ∧ n ≤ x1 ∨ y0 ≤ n ∧ n ≤ y1) : wi0 x0 y0 ≤ n ∧ n ≤ wi1 x1 y1 :=
  ⟨wi0_le hX.2.1 hY.2.1 (hn.imp And.left And.left), wi1_le hX.2.2 hY.2.2 (hn.imp And.right And.right)⟩
theorem in_both : (max x0 y0 ≤ n ∧ n ≤ min x1 y1) ↔ (x0 ≤ n ∧ n ≤ x1) ∧ y0 ≤ n ∧ n ≤ y1 := by
  rw [Int.max_le, Int.le_min]
  exact ⟨fun h => ⟨⟨h.1.1, h.2.1⟩, h.1.2, h.2.2⟩, fun h => ⟨⟨h.1.1, h.2.1⟩, h.1.2, h.2.2⟩⟩
theorem tg_b {b : Bool} (hX : Rg x0 x1) (hY : Rg y0 y1) (hn : x0 ≤ n ∧ n ≤ x1 ∨ y0 ≤ n ∧ n ≤ y1) (hM : min x1 y1 < max x0 y0 ∧ M = .none ∨ ¬ min x1 y1 < max x0 y0 ∧ M = iv (max x0 y0) (min x1 y1)) (hb : b = true ↔ (x0 ≤ n ∧ n ≤ x1) ∧ y0 ≤ n ∧ n ≤ y1) :
    wpS CT ir_tb [iv x0 x1, iv y0 y1, .ints fs, .ints ss, iv (min x0 y0) (max x1 y1), iv (wi0 x0 y0) (wi1 x1 y1), M, .int n, .bool b] (fun _ => True) rt (fun _ => True) := by
  have c1 := in_hull hn
  have c2 := in_wide hX hY hn
  rw [← in_both] at hb
  have rest : T_contains [iv (min x0 y0) (max x1 y1), .int n] (onB fun b => ((!b) = false → T_contains [iv (wi0 x0 y0) (wi1 x1 y1), .int n] (onB fun b => ((!b) = true → rt (.bool false)) ∧ ((!b) = false → True))) ∧ ((!b) = true → (true = true → rt (.bool false)) ∧ (true = false → True))) :=
    ⟨_, _, _, rfl, fun _ => ⟨_, _, _, rfl, fun e => absurd c2 (of_decide_eq_false (bnot e)), fun _ => trivial⟩, fun e => absurd c1 (of_decide_eq_false (bnot e))⟩
  rcases hM with ⟨hm, rfl⟩ | ⟨hm, rfl⟩
  · dsimp only [ir_tb, q_onB, q_onI, q_onS, q_onF, q_onL, q_onD, q_onT, q_onZ, q_onU_none, q_onU_bool, q_onU_int, q_onU_str, q_onU_tup, q_onU_ints, q_onU_strs, q_onU_fdct, q_un_neg, q_un_not, q_un_it0, q_un_it1, q_un_abs, q_un_mxL, q_un_mnL, q_un_one, q_bi_sub, q_bi_mul, q_bi_fdiv, q_bi_mod, q_bi_add, q_bi_lt, q_bi_le, q_bi_gt, q_bi_ge, q_bi_eq, q_bi_ne, q_bi_mx, q_bi_mn, q_cat, q_eq_s, q_eq_b, q_eq_n, q_eq_t, q_ne_s, q_ne_b, q_ne_n, q_ne_t, q_is_n, q_is_t, q_isnot_n, q_isnot_t, q_eqD_i, q_eqD_t, q_froz_n, q_froz_c, q_frz_none, q_frz_bool, q_frz_int, q_frz_str, q_frz_tup, q_frz_ints, q_frz_strs, q_frz_fdct, q_frz_undef, q_frz_dct, q_look_z, q_look_s, q_upd_z, q_upd_s, q_und_z, q_und_s, q_app_n, q_app_c, q_mkL, q_gI_n, q_gI_i, q_gI_s, q_gS_n, q_gS_i, q_toL_n, q_toL_c, q_dget, q_dset_c, q_dset_n, q_cond_t, q_cond_f, q_for_n, q_for_c, q_allI_i, q_allI_s, q_allI_f, q_allN_n, q_allN_c, q_allK_n, q_allK_c, q_it_t, q_it_s, q_unr_n, q_unr_c, q_isD_none, q_isD_bool, q_isD_int, q_isD_str, q_isD_tup, q_isD_ints, q_isD_strs, q_isD_fdct, q_isD_undef, q_isD_dct, q_hasD_n, q_hasD_c, q_flat_none, q_flat_bool, q_flat_int, q_flat_str, q_flat_ints, q_flat_strs, q_flat_tup, q_flat_fdct, q_flat_dnil, q_flat_dcons, q_tor, q_for_b, q_tand, q_fand, q_nt, q_nf, u_done, u_set, u_set2, u_setD, u_setK, u_ifk, u_freeze, u_ret, u_cont, u_ifr, u_forr, u_ford, w_var, w_lit, w_un, w_bi, w_key, w_bo, w_ite, w_tup, w_call, w_lst, w_dict, w_anil, w_acons, ct_0, ct_1, ct_2, ct_3, ct_4, ct_5, ct_6, ct_7, ct_8, ct_9, ct_10, ct_11, ct_12, ct_13, ct_14, ct_15, ct_16, ct_17, ct_18, ct_19, ct_20, ct_21, ct_22, ct_23, ct_24, ct_25, ct_26, ct_27, Nat.reduceBEq, Nat.reduceAdd, List.map, List.contains, List.elem]
    cases b with
    | true => exact absurd (Int.le_trans (hb.mp rfl).1 (hb.mp rfl).2) (Int.not_le.mpr hm)
    | false => exact ⟨nofun, fun _ => ⟨nofun, fun _ => rest⟩⟩
  · dsimp only [ir_tb, q_onB, q_onI, q_onS, q_onF, q_onL, q_onD, q_onT, q_onZ, q_onU_none, q_onU_bool, q_onU_int, q_onU_str, q_onU_tup, q_onU_ints, q_onU_strs, q_onU_fdct, q_un_neg, q_un_not, q_un_it0, q_un_it1, q_un_abs, q_un_mxL, q_un_mnL, q_un_one, q_bi_sub, q_bi_mul, q_bi_fdiv, q_bi_mod, q_bi_add, q_bi_lt, q_bi_le, q_bi_gt, q_bi_ge, q_bi_eq, q_bi_ne, q_bi_mx, q_bi_mn, q_cat, q_eq_s, q_eq_b, q_eq_n, q_eq_t, q_ne_s, q_ne_b, q_ne_n, q_ne_t, q_is_n, q_is_t, q_isnot_n, q_isnot_t, q_eqD_i, q_eqD_t, q_froz_n, q_froz_c, q_frz_none, q_frz_bool, q_frz_int, q_frz_str, q_frz_tup, q_frz_ints, q_frz_strs, q_frz_fdct, q_frz_undef, q_frz_dct, q_look_z, q_look_s, q_upd_z, q_upd_s, q_und_z, q_und_s, q_app_n, q_app_c, q_mkL, q_gI_n, q_gI_i, q_gI_s, q_gS_n, q_gS_i, q_toL_n, q_toL_c, q_dget, q_dset_c, q_dset_n, q_cond_t, q_cond_f, q_for_n, q_for_c, q_allI_i, q_allI_s, q_allI_f, q_allN_n, q_allN_c, q_allK_n, q_allK_c, q_it_t, q_it_s, q_unr_n, q_unr_c, q_isD_none, q_isD_bool, q_isD_int, q_isD_str, q_isD_tup, q_isD_ints, q_isD_strs, q_isD_fdct, q_isD_undef, q_isD_dct, q_hasD_n, q_hasD_c, q_flat_none, q_flat_bool, q_flat_int, q_flat_str, q_flat_ints, q_flat_strs, q_flat_tup, q_flat_fdct, q_flat_dnil, q_flat_dcons, q_tor, q_for_b, q_tand, q_fand, q_nt, q_nf, u_done, u_set, u_set2, u_setD, u_setK, u_ifk, u_freeze, u_ret, u_cont, u_ifr, u_forr, u_ford, w_var, w_lit, w_un, w_bi, w_key, w_bo, w_ite, w_tup, w_call, w_lst, w_dict, w_anil, w_acons, ct_0, ct_1, ct_2, ct_3, ct_4, ct_5, ct_6, ct_7, ct_8, ct_9, ct_10, ct_11, ct_12, ct_13, ct_14, ct_15, ct_16, ct_17, ct_18, ct_19, ct_20, ct_21, ct_22, ct_23, ct_24, ct_25, ct_26, ct_27, Nat.reduceBEq, Nat.reduceAdd, List.map, List.contains, List.elem]
    have e : b = decide (max x0 y0 ≤ n ∧ n ≤ min x1 y1) := by
      cases b with
      | true => exact (decide_eq_true (hb.mp rfl)).symm
      | false => exact (decide_eq_false fun q => Bool.noConfusion (hb.mpr q)).symm
    refine ⟨fun _ => ⟨_, _, _, rfl, ?_⟩, nofun⟩
    rw [← e]
    dsimp only [q_onB, q_onI, q_onS, q_onF, q_onL, q_onD, q_onT, q_onZ, q_onU_none, q_onU_bool, q_onU_int, q_onU_str, q_onU_tup, q_onU_ints, q_onU_strs, q_onU_fdct, q_un_neg, q_un_not, q_un_it0, q_un_it1, q_un_abs, q_un_mxL, q_un_mnL, q_un_one, q_bi_sub, q_bi_mul, q_bi_fdiv, q_bi_mod, q_bi_add, q_bi_lt, q_bi_le, q_bi_gt, q_bi_ge, q_bi_eq, q_bi_ne, q_bi_mx, q_bi_mn, q_cat, q_eq_s, q_eq_b, q_eq_n, q_eq_t, q_ne_s, q_ne_b, q_ne_n, q_ne_t, q_is_n, q_is_t, q_isnot_n, q_isnot_t, q_eqD_i, q_eqD_t, q_froz_n, q_froz_c, q_frz_none, q_frz_bool, q_frz_int, q_frz_str, q_frz_tup, q_frz_ints, q_frz_strs, q_frz_fdct, q_frz_undef, q_frz_dct, q_look_z, q_look_s, q_upd_z, q_upd_s, q_und_z, q_und_s, q_app_n, q_app_c, q_mkL, q_gI_n, q_gI_i, q_gI_s, q_gS_n, q_gS_i, q_toL_n, q_toL_c, q_dget, q_dset_c, q_dset_n, q_cond_t, q_cond_f, q_for_n, q_for_c, q_allI_i, q_allI_s, q_allI_f, q_allN_n, q_allN_c, q_allK_n, q_allK_c, q_it_t, q_it_s, q_unr_n, q_unr_c, q_isD_none, q_isD_bool, q_isD_int, q_isD_str, q_isD_tup, q_isD_ints, q_isD_strs, q_isD_fdct, q_isD_undef, q_isD_dct, q_hasD_n, q_hasD_c, q_flat_none, q_flat_bool, q_flat_int, q_flat_str, q_flat_ints, q_flat_strs, q_flat_tup, q_flat_fdct, q_flat_dnil, q_flat_dcons, q_tor, q_for_b, q_tand, q_fand, q_nt, q_nf, u_done, u_set, u_set2, u_setD, u_setK, u_ifk, u_freeze, u_ret, u_cont, u_ifr, u_forr, u_ford, w_var, w_lit, w_un, w_bi, w_key, w_bo, w_ite, w_tup, w_call, w_lst, w_dict, w_anil, w_acons, ct_0, ct_1, ct_2, ct_3, ct_4, ct_5, ct_6, ct_7, ct_8, ct_9, ct_10, ct_11, ct_12, ct_13, ct_14, ct_15, ct_16, ct_17, ct_18, ct_19, ct_20, ct_21, ct_22, ct_23, ct_24, ct_25, ct_26, ct_27, Nat.reduceBEq, Nat.reduceAdd, List.map, List.contains, List.elem]
    exact ⟨fun q => absurd q (by rw [beq_self_eq_true]; nofun), fun _ => rest⟩
theorem tg_1 (hX : Rg x0 x1) (hY : Rg y0 y1) (hn : x0 ≤ n ∧ n ≤ x1 ∨ y0 ≤ n ∧ n ≤ y1) (hM : min x1 y1 < max x0 y0 ∧ M = .none ∨ ¬ min x1 y1 < max x0 y0 ∧ M = iv (max x0 y0) (min x1 y1)) :
    wpS CT ir_t1 [iv x0 x1, iv y0 y1, .ints fs, .ints ss, iv (min x0 y0) (max x1 y1), iv (wi0 x0 y0) (wi1 x1 y1), M, .int n, .undef] (fun _ => True) rt (fun _ => True) := by
  dsimp only [ir_t1, q_onB, q_onI, q_onS, q_onF, q_onL, q_onD, q_onT, q_onZ, q_onU_none, q_onU_bool, q_onU_int, q_onU_str, q_onU_tup, q_onU_ints, q_onU_strs, q_onU_fdct, q_un_neg, q_un_not, q_un_it0, q_un_it1, q_un_abs, q_un_mxL, q_un_mnL, q_un_one, q_bi_sub, q_bi_mul, q_bi_fdiv, q_bi_mod, q_bi_add, q_bi_lt, q_bi_le, q_bi_gt, q_bi_ge, q_bi_eq, q_bi_ne, q_bi_mx, q_bi_mn, q_cat, q_eq_s, q_eq_b, q_eq_n, q_eq_t, q_ne_s, q_ne_b, q_ne_n, q_ne_t, q_is_n, q_is_t, q_isnot_n, q_isnot_t, q_eqD_i, q_eqD_t, q_froz_n, q_froz_c, q_frz_none, q_frz_bool, q_frz_int, q_frz_str, q_frz_tup, q_frz_ints, q_frz_strs, q_frz_fdct, q_frz_undef, q_frz_dct, q_look_z, q_look_s, q_upd_z, q_upd_s, q_und_z, q_und_s, q_app_n, q_app_c, q_mkL, q_gI_n, q_gI_i, q_gI_s, q_gS_n, q_gS_i, q_toL_n, q_toL_c, q_dget, q_dset_c, q_dset_n, q_cond_t, q_cond_f, q_for_n, q_for_c, q_allI_i, q_allI_s, q_allI_f, q_allN_n, q_allN_c, q_allK_n, q_allK_c, q_it_t, q_it_s, q_unr_n, q_unr_c, q_isD_none, q_isD_bool, q_isD_int, q_isD_str, q_isD_tup, q_isD_ints, q_isD_strs, q_isD_fdct, q_isD_undef, q_isD_dct, q_hasD_n, q_hasD_c, q_flat_none, q_flat_bool, q_flat_int, q_flat_str, q_flat_ints, q_flat_strs, q_flat_tup, q_flat_fdct, q_flat_dnil, q_flat_dcons, q_tor, q_for_b, q_tand, q_fand, q_nt, q_nf, u_done, u_set, u_set2, u_setD, u_setK, u_ifk, u_freeze, u_ret, u_cont, u_ifr, u_forr, u_ford, w_var, w_lit, w_un, w_bi, w_key, w_bo, w_ite, w_tup, w_call, w_lst, w_dict, w_anil, w_acons, ct_0, ct_1, ct_2, ct_3, ct_4, ct_5, ct_6, ct_7, ct_8, ct_9, ct_10, ct_11, ct_12, ct_13, ct_14, ct_15, ct_16, ct_17, ct_18, ct_19, ct_20, ct_21, ct_22, ct_23, ct_24, ct_25, ct_26, ct_27, Nat.reduceBEq, Nat.reduceAdd, List.map, List.contains, List.elem]
  refine ⟨fun p => ⟨fun q => ⟨fun r => ⟨rfl, tg_b hX hY hn hM ?_⟩, fun r => ⟨rfl, tg_b hX hY hn hM ?_⟩⟩, fun q => ⟨rfl, tg_b hX hY hn hM ?_⟩⟩, fun p => ⟨rfl, tg_b hX hY hn hM ?_⟩⟩
  · exact ⟨fun k => ⟨⟨of_decide_eq_true p, of_decide_eq_true q⟩, of_decide_eq_true r, of_decide_eq_true k⟩, fun k => decide_eq_true k.2.2⟩
  · exact ⟨nofun, fun k => absurd k.2.1 (of_decide_eq_false r)⟩
  · exact ⟨nofun, fun k => absurd k.1.2 (of_decide_eq_false q)⟩
  · exact ⟨nofun, fun k => absurd k.1.1 (of_decide_eq_false p)⟩
theorem tg_5 {K : SV → Prop} {nx ct : Kn} (h : K (.bool true)) (hX : Rg x0 x1) (hY : Rg y0 y1) (mf : Mem4 x0 x1 fs) (ms : Mem4 y0 y1 ss) (hl : fs.length + ss.length ≤ 64) (hM : min x1 y1 < max x0 y0 ∧ M = .none ∨ ¬ min x1 y1 < max x0 y0 ∧ M = iv (max x0 y0) (min x1 y1)) :
    wpS CT ir_t5 [iv x0 x1, iv y0 y1, .ints fs, .ints ss, iv (min x0 y0) (max x1 y1), iv (wi0 x0 y0) (wi1 x1 y1), M, .undef, .undef] nx K ct := by
  have tg : ∀ n, n ∈ fs ++ ss → wpS CT ir_t1 [iv x0 x1, iv y0 y1, .ints fs, .ints ss, iv (min x0 y0) (max x1 y1), iv (wi0 x0 y0) (wi1 x1 y1), M, .int n, .undef] (fun _ => True) K (fun _ => True) := fun n hn =>
    tg_1 hX hY ((List.mem_append.mp hn).imp (mf n) (ms n)) hM
  obtain ⟨hx, h0, h1⟩ := hX
  obtain ⟨hy, h2, h3⟩ := hY
  rcases hM with ⟨hm, rfl⟩ | ⟨hm, rfl⟩
  · dsimp only [ir_t5, q_onB, q_onI, q_onS, q_onF, q_onL, q_onD, q_onT, q_onZ, q_onU_none, q_onU_bool, q_onU_int, q_onU_str, q_onU_tup, q_onU_ints, q_onU_strs, q_onU_fdct, q_un_neg, q_un_not, q_un_it0, q_un_it1, q_un_abs, q_un_mxL, q_un_mnL, q_un_one, q_bi_sub, q_bi_mul, q_bi_fdiv, q_bi_mod, q_bi_add, q_bi_lt, q_bi_le, q_bi_gt, q_bi_ge, q_bi_eq, q_bi_ne, q_bi_mx, q_bi_mn, q_cat, q_eq_s, q_eq_b, q_eq_n, q_eq_t, q_ne_s, q_ne_b, q_ne_n, q_ne_t, q_is_n, q_is_t, q_isnot_n, q_isnot_t, q_eqD_i, q_eqD_t, q_froz_n, q_froz_c, q_frz_none, q_frz_bool, q_frz_int, q_frz_str, q_frz_tup, q_frz_ints, q_frz_strs, q_frz_fdct, q_frz_undef, q_frz_dct, q_look_z, q_look_s, q_upd_z, q_upd_s, q_und_z, q_und_s, q_app_n, q_app_c, q_mkL, q_gI_n, q_gI_i, q_gI_s, q_gS_n, q_gS_i, q_toL_n, q_toL_c, q_dget, q_dset_c, q_dset_n, q_cond_t, q_cond_f, q_for_n, q_for_c, q_allI_i, q_allI_s, q_allI_f, q_allN_n, q_allN_c, q_allK_n, q_allK_c, q_it_t, q_it_s, q_unr_n, q_unr_c, q_isD_none, q_isD_bool, q_isD_int, q_isD_str, q_isD_tup, q_isD_ints, q_isD_strs, q_isD_fdct, q_isD_undef, q_isD_dct, q_hasD_n, q_hasD_c, q_flat_none, q_flat_bool, q_flat_int, q_flat_str, q_flat_ints, q_flat_strs, q_flat_tup, q_flat_fdct, q_flat_dnil, q_flat_dcons, q_tor, q_for_b, q_tand, q_fand, q_nt, q_nf, u_done, u_set, u_set2, u_setD, u_setK, u_ifk, u_freeze, u_ret, u_cont, u_ifr, u_forr, u_ford, w_var, w_lit, w_un, w_bi, w_key, w_bo, w_ite, w_tup, w_call, w_lst, w_dict, w_anil, w_acons, ct_0, ct_1, ct_2, ct_3, ct_4, ct_5, ct_6, ct_7, ct_8, ct_9, ct_10, ct_11, ct_12, ct_13, ct_14, ct_15, ct_16, ct_17, ct_18, ct_19, ct_20, ct_21, ct_22, ct_23, ct_24, ct_25, ct_26, ct_27, Nat.reduceBEq, Nat.reduceAdd, List.map, List.contains, List.elem]
    refine ⟨rfl, hl, tg, fun p => kb h ?_, fun p => kb h rfl⟩
    rw [decide_eq_true (((Decidable.not_not.mp fun k => (sep_le hx hy).mpr k hm).resolve_left (of_decide_eq_false p)))]; rfl
  · dsimp only [ir_t5, q_onB, q_onI, q_onS, q_onF, q_onL, q_onD, q_onT, q_onZ, q_onU_none, q_onU_bool, q_onU_int, q_onU_str, q_onU_tup, q_onU_ints, q_onU_strs, q_onU_fdct, q_un_neg, q_un_not, q_un_it0, q_un_it1, q_un_abs, q_un_mxL, q_un_mnL, q_un_one, q_bi_sub, q_bi_mul, q_bi_fdiv, q_bi_mod, q_bi_add, q_bi_lt, q_bi_le, q_bi_gt, q_bi_ge, q_bi_eq, q_bi_ne, q_bi_mx, q_bi_mn, q_cat, q_eq_s, q_eq_b, q_eq_n, q_eq_t, q_ne_s, q_ne_b, q_ne_n, q_ne_t, q_is_n, q_is_t, q_isnot_n, q_isnot_t, q_eqD_i, q_eqD_t, q_froz_n, q_froz_c, q_frz_none, q_frz_bool, q_frz_int, q_frz_str, q_frz_tup, q_frz_ints, q_frz_strs, q_frz_fdct, q_frz_undef, q_frz_dct, q_look_z, q_look_s, q_upd_z, q_upd_s, q_und_z, q_und_s, q_app_n, q_app_c, q_mkL, q_gI_n, q_gI_i, q_gI_s, q_gS_n, q_gS_i, q_toL_n, q_toL_c, q_dget, q_dset_c, q_dset_n, q_cond_t, q_cond_f, q_for_n, q_for_c, q_allI_i, q_allI_s, q_allI_f, q_allN_n, q_allN_c, q_allK_n, q_allK_c, q_it_t, q_it_s, q_unr_n, q_unr_c, q_isD_none, q_isD_bool, q_isD_int, q_isD_str, q_isD_tup, q_isD_ints, q_isD_strs, q_isD_fdct, q_isD_undef, q_isD_dct, q_hasD_n, q_hasD_c, q_flat_none, q_flat_bool, q_flat_int, q_flat_str, q_flat_ints, q_flat_strs, q_flat_tup, q_flat_fdct, q_flat_dnil, q_flat_dcons, q_tor, q_for_b, q_tand, q_fand, q_nt, q_nf, u_done, u_set, u_set2, u_setD, u_setK, u_ifk, u_freeze, u_ret, u_cont, u_ifr, u_forr, u_ford, w_var, w_lit, w_un, w_bi, w_key, w_bo, w_ite, w_tup, w_call, w_lst, w_dict, w_anil, w_acons, ct_0, ct_1, ct_2, ct_3, ct_4, ct_5, ct_6, ct_7, ct_8, ct_9, ct_10, ct_11, ct_12, ct_13, ct_14, ct_15, ct_16, ct_17, ct_18, ct_19, ct_20, ct_21, ct_22, ct_23, ct_24, ct_25, ct_26, ct_27, Nat.reduceBEq, Nat.reduceAdd, List.map, List.contains, List.elem]
    have k := not_or.mp ((sep_le hx hy).mp hm)
    refine ⟨rfl, hl, tg, fun p => kb h ?_, fun p => absurd (of_decide_eq_true p) k.1⟩
    rw [decide_eq_false k.2]; rfl
theorem in_hb {x y : Int} : min x y = y ↔ y ≤ x := ⟨fun h => h ▸ Int.min_le_left x y, fun h => Int.min_eq_right h⟩
theorem in_hc {x y : Int} : max x y = y ↔ x ≤ y := ⟨fun h => h ▸ Int.le_max_left x y, fun h => Int.max_eq_right h⟩
theorem tg_4 {nx ct : Kn} (h : wpS CT ir_t5 [iv x0 x1, iv y0 y1, .ints fs, .ints ss, iv (min x0 y0) (max x1 y1), iv (wi0 x0 y0) (wi1 x1 y1), M, .undef, .undef] nx rt ct) :
    wpS CT ir_t4 [iv x0 x1, iv y0 y1, .ints fs, .ints ss, iv (min x0 y0) (max x1 y1), iv (wi0 x0 y0) (wi1 x1 y1), M, .undef, .undef] nx rt ct := by
  dsimp only [ir_t4, q_onB, q_onI, q_onS, q_onF, q_onL, q_onD, q_onT, q_onZ, q_onU_none, q_onU_bool, q_onU_int, q_onU_str, q_onU_tup, q_onU_ints, q_onU_strs, q_onU_fdct, q_un_neg, q_un_not, q_un_it0, q_un_it1, q_un_abs, q_un_mxL, q_un_mnL, q_un_one, q_bi_sub, q_bi_mul, q_bi_fdiv, q_bi_mod, q_bi_add, q_bi_lt, q_bi_le, q_bi_gt, q_bi_ge, q_bi_eq, q_bi_ne, q_bi_mx, q_bi_mn, q_cat, q_eq_s, q_eq_b, q_eq_n, q_eq_t, q_ne_s, q_ne_b, q_ne_n, q_ne_t, q_is_n, q_is_t, q_isnot_n, q_isnot_t, q_eqD_i, q_eqD_t, q_froz_n, q_froz_c, q_frz_none, q_frz_bool, q_frz_int, q_frz_str, q_frz_tup, q_frz_ints, q_frz_strs, q_frz_fdct, q_frz_undef, q_frz_dct, q_look_z, q_look_s, q_upd_z, q_upd_s, q_und_z, q_und_s, q_app_n, q_app_c, q_mkL, q_gI_n, q_gI_i, q_gI_s, q_gS_n, q_gS_i, q_toL_n, q_toL_c, q_dget, q_dset_c, q_dset_n, q_cond_t, q_cond_f, q_for_n, q_for_c, q_allI_i, q_allI_s, q_allI_f, q_allN_n, q_allN_c, q_allK_n, q_allK_c, q_it_t, q_it_s, q_unr_n, q_unr_c, q_isD_none, q_isD_bool, q_isD_int, q_isD_str, q_isD_tup, q_isD_ints, q_isD_strs, q_isD_fdct, q_isD_undef, q_isD_dct, q_hasD_n, q_hasD_c, q_flat_none, q_flat_bool, q_flat_int, q_flat_str, q_flat_ints, q_flat_strs, q_flat_tup, q_flat_fdct, q_flat_dnil, q_flat_dcons, q_tor, q_for_b, q_tand, q_fand, q_nt, q_nf, u_done, u_set, u_set2, u_setD, u_setK, u_ifk, u_freeze, u_ret, u_cont, u_ifr, u_forr, u_ford, w_var, w_lit, w_un, w_bi, w_key, w_bo, w_ite, w_tup, w_call, w_lst, w_dict, w_anil, w_acons, ct_0, ct_1, ct_2, ct_3, ct_4, ct_5, ct_6, ct_7, ct_8, ct_9, ct_10, ct_11, ct_12, ct_13, ct_14, ct_15, ct_16, ct_17, ct_18, ct_19, ct_20, ct_21, ct_22, ct_23, ct_24, ct_25, ct_26, ct_27, Nat.reduceBEq, Nat.reduceAdd, List.map, List.contains, List.elem]
  refine ⟨_, _, _, _, rfl, rfl, ?_⟩
  dsimp only [q_onB, q_onI, q_onS, q_onF, q_onL, q_onD, q_onT, q_onZ, q_onU_none, q_onU_bool, q_onU_int, q_onU_str, q_onU_tup, q_onU_ints, q_onU_strs, q_onU_fdct, q_un_neg, q_un_not, q_un_it0, q_un_it1, q_un_abs, q_un_mxL, q_un_mnL, q_un_one, q_bi_sub, q_bi_mul, q_bi_fdiv, q_bi_mod, q_bi_add, q_bi_lt, q_bi_le, q_bi_gt, q_bi_ge, q_bi_eq, q_bi_ne, q_bi_mx, q_bi_mn, q_cat, q_eq_s, q_eq_b, q_eq_n, q_eq_t, q_ne_s, q_ne_b, q_ne_n, q_ne_t, q_is_n, q_is_t, q_isnot_n, q_isnot_t, q_eqD_i, q_eqD_t, q_froz_n, q_froz_c, q_frz_none, q_frz_bool, q_frz_int, q_frz_str, q_frz_tup, q_frz_ints, q_frz_strs, q_frz_fdct, q_frz_undef, q_frz_dct, q_look_z, q_look_s, q_upd_z, q_upd_s, q_und_z, q_und_s, q_app_n, q_app_c, q_mkL, q_gI_n, q_gI_i, q_gI_s, q_gS_n, q_gS_i, q_toL_n, q_toL_c, q_dget, q_dset_c, q_dset_n, q_cond_t, q_cond_f, q_for_n, q_for_c, q_allI_i, q_allI_s, q_allI_f, q_allN_n, q_allN_c, q_allK_n, q_allK_c, q_it_t, q_it_s, q_unr_n, q_unr_c, q_isD_none, q_isD_bool, q_isD_int, q_isD_str, q_isD_tup, q_isD_ints, q_isD_strs, q_isD_fdct, q_isD_undef, q_isD_dct, q_hasD_n, q_hasD_c, q_flat_none, q_flat_bool, q_flat_int, q_flat_str, q_flat_ints, q_flat_strs, q_flat_tup, q_flat_fdct, q_flat_dnil, q_flat_dcons, q_tor, q_for_b, q_tand, q_fand, q_nt, q_nf, u_done, u_set, u_set2, u_setD, u_setK, u_ifk, u_freeze, u_ret, u_cont, u_ifr, u_forr, u_ford, w_var, w_lit, w_un, w_bi, w_key, w_bo, w_ite, w_tup, w_call, w_lst, w_dict, w_anil, w_acons, ct_0, ct_1, ct_2, ct_3, ct_4, ct_5, ct_6, ct_7, ct_8, ct_9, ct_10, ct_11, ct_12, ct_13, ct_14, ct_15, ct_16, ct_17, ct_18, ct_19, ct_20, ct_21, ct_22, ct_23, ct_24, ct_25, ct_26, ct_27, Nat.reduceBEq, Nat.reduceAdd, List.map, List.contains, List.elem]
  refine ⟨fun e => ?_, fun _ => h⟩
  have k : decide (y0 ≤ x0 ∧ x1 ≤ y1) = (decide (min x0 y0 = y0) && decide (max x1 y1 = y1)) := by
    rw [← Bool.decide_and]; exact decide_eq_decide.mpr (and_congr in_hb.symm in_hc.symm)
  rw [k, beq_self_eq_true] at e
  cases e
theorem tg_2 {nx ct : Kn} (h : wpS CT ir_t5 [iv x0 x1, iv y0 y1, .ints fs, .ints ss, iv (min x0 y0) (max x1 y1), iv (wi0 x0 y0) (wi1 x1 y1), M, .undef, .undef] nx rt ct) :
    wpS CT ir_t2 [iv x0 x1, iv y0 y1, .ints fs, .ints ss, iv (min x0 y0) (max x1 y1), iv (wi0 x0 y0) (wi1 x1 y1), M, .undef, .undef] nx rt ct := by
  have h := tg_4 h
  have d : ∀ p : Int, decide (p = p) = true := fun p => decide_eq_true rfl
  have nd : ∀ {p q : Int} {P : Prop}, p = q → (!decide (p = q)) = true → P := fun e f => absurd e (of_decide_eq_false (bnot f))
  dsimp only [ir_t2, q_onB, q_onI, q_onS, q_onF, q_onL, q_onD, q_onT, q_onZ, q_onU_none, q_onU_bool, q_onU_int, q_onU_str, q_onU_tup, q_onU_ints, q_onU_strs, q_onU_fdct, q_un_neg, q_un_not, q_un_it0, q_un_it1, q_un_abs, q_un_mxL, q_un_mnL, q_un_one, q_bi_sub, q_bi_mul, q_bi_fdiv, q_bi_mod, q_bi_add, q_bi_lt, q_bi_le, q_bi_gt, q_bi_ge, q_bi_eq, q_bi_ne, q_bi_mx, q_bi_mn, q_cat, q_eq_s, q_eq_b, q_eq_n, q_eq_t, q_ne_s, q_ne_b, q_ne_n, q_ne_t, q_is_n, q_is_t, q_isnot_n, q_isnot_t, q_eqD_i, q_eqD_t, q_froz_n, q_froz_c, q_frz_none, q_frz_bool, q_frz_int, q_frz_str, q_frz_tup, q_frz_ints, q_frz_strs, q_frz_fdct, q_frz_undef, q_frz_dct, q_look_z, q_look_s, q_upd_z, q_upd_s, q_und_z, q_und_s, q_app_n, q_app_c, q_mkL, q_gI_n, q_gI_i, q_gI_s, q_gS_n, q_gS_i, q_toL_n, q_toL_c, q_dget, q_dset_c, q_dset_n, q_cond_t, q_cond_f, q_for_n, q_for_c, q_allI_i, q_allI_s, q_allI_f, q_allN_n, q_allN_c, q_allK_n, q_allK_c, q_it_t, q_it_s, q_unr_n, q_unr_c, q_isD_none, q_isD_bool, q_isD_int, q_isD_str, q_isD_tup, q_isD_ints, q_isD_strs, q_isD_fdct, q_isD_undef, q_isD_dct, q_hasD_n, q_hasD_c, q_flat_none, q_flat_bool, q_flat_int, q_flat_str, q_flat_ints, q_flat_strs, q_flat_tup, q_flat_fdct, q_flat_dnil, q_flat_dcons, q_tor, q_for_b, q_tand, q_fand, q_nt, q_nf, u_done, u_set, u_set2, u_setD, u_setK, u_ifk, u_freeze, u_ret, u_cont, u_ifr, u_forr, u_ford, w_var, w_lit, w_un, w_bi, w_key, w_bo, w_ite, w_tup, w_call, w_lst, w_dict, w_anil, w_acons, ct_0, ct_1, ct_2, ct_3, ct_4, ct_5, ct_6, ct_7, ct_8, ct_9, ct_10, ct_11, ct_12, ct_13, ct_14, ct_15, ct_16, ct_17, ct_18, ct_19, ct_20, ct_21, ct_22, ct_23, ct_24, ct_25, ct_26, ct_27, Nat.reduceBEq, Nat.reduceAdd, List.map, List.contains, List.elem]
  rw [d, d]
  refine ⟨rfl, nofun, fun _ => ⟨fun p => ⟨fun _ => ⟨fun q => ⟨nd (if_pos (of_decide_eq_true q)), fun _ => h⟩, fun q => ⟨nd (if_neg (of_decide_eq_false q)), fun _ => h⟩⟩, nd (if_pos (of_decide_eq_true p))⟩, fun p => ⟨fun _ => ⟨fun q => ⟨nd (if_pos (of_decide_eq_true q)), fun _ => h⟩, fun q => ⟨nd (if_neg (of_decide_eq_false q)), fun _ => h⟩⟩, nd (if_neg (of_decide_eq_false p))⟩⟩⟩
end
theorem v_law_together : ∀ (args : List SV) (K : SV → Prop), T_law_together args K → args.length = 4 ∧ wpS CT ir_law_together (args ++ undefs 5) (fun _ => K .none) K (fun _ => False) := by
  rintro args K ⟨x0, x1, y0, y1, fs, ss, rfl, ⟨hX, hY, mf, ms, hl⟩, h⟩
  refine ⟨rfl, ?_⟩
  show wpS CT ir_tt _ _ _ _
  dsimp only [ir_tt, q_onB, q_onI, q_onS, q_onF, q_onL, q_onD, q_onT, q_onZ, q_onU_none, q_onU_bool, q_onU_int, q_onU_str, q_onU_tup, q_onU_ints, q_onU_strs, q_onU_fdct, q_un_neg, q_un_not, q_un_it0, q_un_it1, q_un_abs, q_un_mxL, q_un_mnL, q_un_one, q_bi_sub, q_bi_mul, q_bi_fdiv, q_bi_mod, q_bi_add, q_bi_lt, q_bi_le, q_bi_gt, q_bi_ge, q_bi_eq, q_bi_ne, q_bi_mx, q_bi_mn, q_cat, q_eq_s, q_eq_b, q_eq_n, q_eq_t, q_ne_s, q_ne_b, q_ne_n, q_ne_t, q_is_n, q_is_t, q_isnot_n, q_isnot_t, q_eqD_i, q_eqD_t, q_froz_n, q_froz_c, q_frz_none, q_frz_bool, q_frz_int, q_frz_str, q_frz_tup, q_frz_ints, q_frz_strs, q_frz_fdct, q_frz_undef, q_frz_dct, q_look_z, q_look_s, q_upd_z, q_upd_s, q_und_z, q_und_s, q_app_n, q_app_c, q_mkL, q_gI_n, q_gI_i, q_gI_s, q_gS_n, q_gS_i, q_toL_n, q_toL_c, q_dget, q_dset_c, q_dset_n, q_cond_t, q_cond_f, q_for_n, q_for_c, q_allI_i, q_allI_s, q_allI_f, q_allN_n, q_allN_c, q_allK_n, q_allK_c, q_it_t, q_it_s, q_unr_n, q_unr_c, q_isD_none, q_isD_bool, q_isD_int, q_isD_str, q_isD_tup, q_isD_ints, q_isD_strs, q_isD_fdct, q_isD_undef, q_isD_dct, q_hasD_n, q_hasD_c, q_flat_none, q_flat_bool, q_flat_int, q_flat_str, q_flat_ints, q_flat_strs, q_flat_tup, q_flat_fdct, q_flat_dnil, q_flat_dcons, q_tor, q_for_b, q_tand, q_fand, q_nt, q_nf, u_done, u_set, u_set2, u_setD, u_setK, u_ifk, u_freeze, u_ret, u_cont, u_ifr, u_forr, u_ford, w_var, w_lit, w_un, w_bi, w_key, w_bo, w_ite, w_tup, w_call, w_lst, w_dict, w_anil, w_acons, ct_0, ct_1, ct_2, ct_3, ct_4, ct_5, ct_6, ct_7, ct_8, ct_9, ct_10, ct_11, ct_12, ct_13, ct_14, ct_15, ct_16, ct_17, ct_18, ct_19, ct_20, ct_21, ct_22, ct_23, ct_24, ct_25, ct_26, ct_27, Nat.reduceBEq, Nat.reduceAdd, List.map, List.contains, List.elem]
  exact ⟨_, _, _, _, rfl, rfl, _, _, _, _, rfl, rfl, _, _, _, _, rfl, fun p => ⟨rfl, tg_2 (tg_5 h hX hY mf ms hl (.inl ⟨p, rfl⟩))⟩, fun p => ⟨rfl, tg_2 (tg_5 h hX hY mf ms hl (.inr ⟨p, rfl⟩))⟩⟩
theorem f_law_together (w : World) (h : FS w 27) : FS w 28 := fs_succ h (show FSpec w 245 (27 + 10) T_law_together from by
  refine' fspec_of (n := 27) ns_law_together 4 5 ir_law_together (tabs w) (by decide) (by decide) h ?ho ?hcd ?hb ?hsc ?hco ?hgen ?hk ?hc ?hT
  case ho => k_is
  case hcd => k_is
  case hb =>
    intro vs hv
    obtain ⟨a0, a1, a2, a3, rfl⟩ := len4 hv
    exact rfl
  case hsc => kernel_rfl!
  case hco => rfl
  case hgen => rfl
  case hk => rfl
  case hc => kernel_rfl!
  case hT => exact v_law_together)

section
open PySem.Calls PyProof.V
/-- the list of figures lies at D, beside the ledger g -/
noncomputable def Cell (c : Cx) (h : Heap) (D : Addr) (g : LedT) : Prop := ∃ (us : List Value) (is : List Int) (n : Nat), News c.h₀ c.L h ((D, W.listOf us.toArray n) :: g) ∧ IntsAre us is ∧ us.length ≤ 10000 ∧ ∀ q ∈ g, q.1 ≠ D
/-- the script: a list of at most 63 ints below the frame -/
noncomputable def Scr (c : Cx) (sc : Addr) : Prop := ∃ xs l, c.base.IsList sc xs.toArray ∧ IntsAre xs l ∧ xs.length ≤ 63
/-- the second argument: the script, or a value -/
noncomputable def ArgM (c : Cx) (g : LedT) (v : Value) : Option SV → Prop | none => ∃ sc, v = .ref sc ∧ Scr c sc | some sv => VR c.w g sv v
noncomputable def MSpec (w : World) (f : Addr) (dep : Nat) (a : Option SV) (K : SV → Prop) : Prop :=
  ∀ (c : Cx) (m : Str → Option Value) (s : Shared) (g : LedT) (D : Addr) (v : Value) (Q : Value → Shared → Prop), c.w = w →
    Below c.A₀ c.base c.outer c.h₀ → (hd.heap_39 c.w.params).In c.h₀ → Top hd.view_39 c.loose c.mean c.mg c.mb c.h₀ → c.cs.kind = .function → c.dp + dep < recursionLimit → c.un + 8 * dep < cLine →
    Fr c.h₀ c.L s.heap m → Cell c s.heap D g → ArgM c g v a → (∀ r h tk g' sv, Fr c.h₀ c.L h m → Cell c h D g' → Sub g g' → K sv → VR c.w g' sv r → Q r { s with heap := h, toks := tk }) → wpAny (model PRG c.w) c.A (call (.ref f) [.ref D, v]) Q NoE s
structure StM (c : Cx) (ns : List Str) (fi : Nat) (ρ : List SV) (D : Addr) (g : LedT) (m : Str → Option Value) (h : Heap) : Prop where
  F : Fr c.h₀ c.L h m
  C : Cell c h D g
  fig : m (nameAt ns fi) = some (.ref D)
  R : EnvG (VR c.w g) m ns ρ
section
variable {c : Cx} {ns : List Str} {n fi : Nat} {ρ : List SV} {D : Addr} {g : LedT} {m : Str → Option Value} {s : Shared}
noncomputable def ArE (c : Cx) (m : Str → Option Value) (g : LedT) (e : Expr) (a : Option SV) : Prop :=
  ∀ (P : Value → Shared → Prop) (s : Shared), Fr c.h₀ c.L s.heap m → (∀ v tk, ArgM c g v a → P v { s with toks := tk }) → wpAny (model PRG c.w) c.A (eval e c.env) P NoE s
theorem mc_ev {f : Addr} {fn : Str} {k : Nat} {a : Option SV} {K : SV → Prop} {e : Expr} {pf p q : Pos} {Q : Value → Shared → Prop} (O : c.Ok n) (hk : k < n) (S : MSpec c.w f (k + 10) a K) (hx : globOk c.cs fn = true) (hl : locOk c.cs (nameAt ns fi) = true)
    (nsI : nsIn (hd.heap_39 c.w.params) mainGlobals fn = some (some (.ref f))) (kpI : keepIn (hd.heap_39 c.w.params) (.ref f) = true) (hs : isStar e = false) (ae : ArE c m g e a) (St : StM c ns fi ρ D g m s.heap)
    (kk : ∀ r h tk g' sv, Fr c.h₀ c.L h m → Cell c h D g' → Sub g g' → K sv → VR c.w g' sv r → Q r { s with heap := h, toks := tk }) :
    wpAny (model PRG c.w) c.A (eval (.Call (.Name fn pf) [.Name (nameAt ns fi) q, e] [] p) c.env) Q NoE s :=
  have hr := O.room
  have hu := O.units
  Call_ (ld_glob O hx St.F nsI (callWith_K (h₀ := c.h₀) O.ins kpI (args_cons (ld_loc hl St.F St.fig (args_cons (ae _ _ St.F fun v tk hv => args_nil ⟨O.ins.keeps St.F.keep,
    S c m { s with toks := tk } g D v Q rfl O.below O.ins O.top O.kind (by omega) (by omega) St.F St.C hv fun r h tk g' sv F' C' hs' hK hv' => kk r h tk g' sv F' C' hs' hK hv'⟩) (star_cons hs))) (star_cons rfl)) (star_cons rfl) (by rw [star_cons hs]; rfl)))
theorem Cell.store {h h' : Heap} (C : Cell c h D g) {x : Str} {v : Value} {Q : Unit → Shared → Prop} {tk : Nat} (hx : locOk c.cs x = true) (F : Fr c.h₀ c.L h m)
    (k : ∀ h', Fr c.h₀ c.L h' (fun y => if y = x then some v else m y) → Cell c h' D g → Q () { s with heap := h', toks := tk + 1 }) : wpAny (model PRG c.w) c.A (storeName c.env x v) Q NoE { s with heap := h, toks := tk } :=
  let ⟨us, is, n, N, hi, hz, hne⟩ := C
  st_loc (s := { s with heap := h, toks := tk }) hx F N fun h' F' N' => k h' F' ⟨us, is, n, N', hi, hz, hne⟩
/-- x = f(figures, e) -/
theorem ex_mc {f : Addr} {fn : Str} {k i : Nat} {a : Option SV} {K : SV → Prop} {e : Expr} {pf p p1 q q1 : Pos} {ss : List Stmt} {Q : Flow → Shared → Prop} (O : c.Ok n) (hk : k < n) (S : MSpec c.w f (k + 10) a K) (hx : globOk c.cs fn = true) (hl : ∀ x ∈ ns, locOk c.cs x = true) (hn : ns.Nodup) (hi : i < ns.length) (hf : fi < ns.length) (hif : fi ≠ i)
    (nsI : nsIn (hd.heap_39 c.w.params) mainGlobals fn = some (some (.ref f))) (kpI : keepIn (hd.heap_39 c.w.params) (.ref f) = true) (hs : isStar e = false) (ae : ArE c m g e a) (St : StM c ns fi ρ D g m s.heap)
    (kk : ∀ h tk g' sv m', K sv → Sub g g' → (∀ j, j < ns.length → j ≠ i → m' (nameAt ns j) = m (nameAt ns j)) → StM c ns fi (upd ρ i sv) D g' m' h → wpAny (model PRG c.w) c.A (execs ss c.env) Q NoE { s with heap := h, toks := tk }) :
    wpAny (model PRG c.w) c.A (execs (.Assign [.Name (nameAt ns i) q1] (.Call (.Name fn pf) [.Name (nameAt ns fi) q, e] [] p) p1 :: ss) c.env) Q NoE s :=
  wpAny_execs_cons (wpAny_Assign_Name (mc_ev O hk S hx (hl _ (nameAt_mem hf)) nsI kpI hs ae St fun r h tk g' sv F' C' hs' hK hv =>
    C'.store (h' := h) (hl _ (nameAt_mem hi)) F' fun h2 F2 C2 => kk h2 _ g' sv _ hK hs' (fun j hj hji => if_neg fun e => hji (nameAt_inj hn hj hi e)) ⟨F2, C2, (if_neg fun e => hif (nameAt_inj hn hf hi e)).trans St.fig, EnvG.upd hv hn hi (EnvG.imp (fun _ _ => VR.mono hs') (fun _ _ => rfl) St.R)⟩) (swap_ok rfl))
noncomputable def numV (sv : SV) : Bool := SV.rec (motive := fun _ => Bool) false true (fun _ => true) (fun _ => true) (fun _ => true) (fun _ _ a b => a && b) (fun _ => false) (fun _ => false) false (fun _ _ _ _ _ => false) (fun _ _ => false) (fun _ _ => false) sv
theorem vr_off {w : World} {h₀ h : Heap} {L : Addr} {G : LedT} {us : Array Value} {n : Nat} (N : News h₀ L h G) (hm : (D, W.listOf us n) ∈ G) : ∀ {sv : SV} {v : Value}, numV sv = true → VR w G sv v → VR w (offD D G) sv v := by
  intro sv
  induction sv with
  | tup a b ha hb =>
    rintro v hn ⟨r, va, vb, e, hr, h1, h2⟩
    refine ⟨r, va, vb, e, List.mem_filter.mpr ⟨hr, decide_eq_true fun e => ?_⟩, ha (and3 hn).1 h1, hb (and3 hn).2 h2⟩
    have e1 := (N _ hr).1
    rw [show r = D from e] at e1
    have e2 := congrArg Obj.cls (Option.some.inj (e1.symm.trans (N _ hm).1))
    injection e2 with e2
    exact absurd e2 (by decide)
  | none => exact fun _ h => h
  | bool b => exact fun _ h => h
  | int b => exact fun _ h => h
  | str b => exact fun _ h => h
  | _ => exact fun h => bad h rfl
theorem cell_off {h : Heap} {G : LedT} {us : List Value} {is : List Int} {n : Nat} (N : News c.h₀ c.L h G) (hm : (D, W.listOf us.toArray n) ∈ G) (hi : IntsAre us is) (hz : us.length ≤ 10000) : Cell c h D (offD D G) :=
  ⟨us, is, n, fun q hq => (List.mem_cons.mp hq).elim (fun e => e ▸ N _ hm) fun hq => N _ (offD_sub q hq), hi, hz, offD_ne⟩
/-- the state as the checked blocks see it -/
theorem StM.str {h : Heap} (S : StM c ns fi ρ D g m h) : ∃ us is n, IntsAre us is ∧ us.length ≤ 10000 ∧ (∀ q ∈ g, q.1 ≠ D) ∧ StR c ns ((D, W.listOf us.toArray n) :: g) ρ ((D, W.listOf us.toArray n) :: g) none m h := by
  obtain ⟨us, is, n, N, hi, hz, hne⟩ := S.C
  exact ⟨us, is, n, hi, hz, hne, S.F, N, fun _ _ e => (nomatch e), .refl, EnvG.imp (fun sv v hv => vc_of (hv.mono Sub.refl.consR)) (fun _ _ => rfl) S.R⟩
theorem off_sub {o : Obj} {G : LedT} (hs : Sub ((D, o) :: g) G) (hne : ∀ q ∈ g, q.1 ≠ D) : Sub g (offD D G) := fun q hq => List.mem_filter.mpr ⟨hs q (.tail _ hq), decide_eq_true (hne q hq)⟩
/-- a rest of a block that does not change the list, and ends by a return -/
theorem ex_tail {is : IS} {al : List Nat} {ss : List Stmt} {rt : SV → Prop} {Γ : Nat → FnT} {Q : Flow → Shared → Prop} (Cx : Ctx c ns n Γ) (hn : ns.Nodup) (hc : chkS (CK c ns n) is al ss = true) (hw : wpS Γ is ρ (fun _ => False) rt (fun _ => False)) (hnum : ∀ sv, rt sv → numV sv = true) (St : StM c ns fi ρ D g m s.heap)
    (kk : ∀ v h tk g' sv m', Fr c.h₀ c.L h m' → Cell c h D g' → Sub g g' → rt sv → VR c.w g' sv v → Q (.ret v) { s with heap := h, toks := tk }) : wpAny (model PRG c.w) c.A (execs ss c.env) Q NoE s := by
  obtain ⟨us, is', n', hi, hz, hne, S⟩ := St.str
  refine ss_all Cx hn is al ss ρ _ _ rt _ hc hw _ _ _ none _ S ⟨fun _ _ _ _ _ _ _ _ h => h.elim, fun _ _ _ _ _ _ _ _ h => h.elim, ?_⟩
  rintro v s2 G sv m2 ⟨h2, tk2, rfl⟩ F2 N2 hs2 hr hv2
  have hm := hs2 _ (.head _)
  exact kk v h2 tk2 (offD D G) sv m2 F2 (cell_off N2 hm hi hz) (off_sub hs2 hne) hr (vr_off N2 hm (hnum sv hr) hv2)
end
theorem two_le {k : Nat} {ns : List Str} (h : 2 + k = ns.length) : ∃ x0 x1 ns', ns = x0 :: x1 :: ns' := by
  rcases ns with _ | ⟨x0, _ | ⟨x1, ns'⟩⟩
  · exact absurd h (by rw [Nat.add_comm]; nofun)
  · exact absurd h (by rw [Nat.add_comm]; nofun)
  · exact ⟨x0, x1, ns', rfl⟩
/-- a def whose first parameter is the list of figures -/
theorem mspec_of {w : World} {n : Nat} {f : Addr} {a : Option SV} {K : SV → Prop} {name qual : Str} {params : Arguments} {body : List Stmt} {scope : Scope} {dV kV doc pm cdv ct oc : Value} {an od : Option Addr} {osl : Array (Option Value)} (ns : List Str) (k : Nat)
    (tabs : Tabs w) (fs : FS w 28) (h28 : 28 ≤ n) (hk2 : 2 + k = ns.length)
    (ho : (hd.heap_39 w.params).lookup f = some ⟨oc, od, .func (fnOf name qual params body scope dV kV doc pm an cdv ct), osl⟩) (hcd : codeIn (hd.heap_39 w.params) cdv qual = true)
    (hb : ∀ vs : List Value, vs.length = 2 → bindArgs (fnOf name qual params body scope dV kV doc pm an cdv ct) ⟨vs, []⟩ = pure (ns.zip vs))
    (hsc : scOk ns scope = true) (hco : scope.isCoroutine = false) (hgen : scope.isGenerator = false) (hk : scope.kind = .function)
    (hT : ∀ (c : Cx) (m : Str → Option Value) (s : Shared) (g : LedT) (D : Addr) (v : Value) (Q : Flow → Shared → Prop), c.w = w → c.cs = scope → c.Ok n → Ctx c ns 28 CT → ns.Nodup → StM c ns 0 (.undef :: (a.getD .undef) :: undefs k) D g m s.heap → m (nameAt ns 1) = some v → ArgM c g v a →
      (∀ v h tk g' sv m', Fr c.h₀ c.L h m' → Cell c h D g' → Sub g g' → K sv → VR c.w g' sv v → Q (.ret v) { s with heap := h, toks := tk }) → wpAny (model PRG c.w) c.A (execs body c.env) Q NoE s) : MSpec w f (n + 10) a K := by
  intro c m s g D v Q hw B X Tp hkd hroom hun F C0 ha kk
  subst hw
  obtain ⟨us, is, n', N, hi, hz, hne⟩ := C0
  obtain ⟨x0, x1, ns', rfl⟩ := two_le hk2
  refine frame_of (n := n) _ ho hcd hb hsc hco hgen hk B X Tp hkd hroom hun F N rfl fun L' g' h tk m' P O' hloc hnd F' N' hm fin => ?_
  have C' : Ctx (c.callee qual scope L' f cdv g') (x0 :: x1 :: ns') 28 CT := ⟨⟨O'.below, O'.ins, O'.top, O'.kind, Nat.lt_of_le_of_lt (Nat.add_le_add_left (Nat.add_le_add_right h28 9) _) O'.room, Nat.lt_of_le_of_lt (Nat.add_le_add_left (Nat.mul_le_mul_left 8 (Nat.add_le_add_right h28 9)) _) O'.units⟩, hloc, fs, tabs.nsI, tabs.kpI, tabs.glI, tabs.blI⟩
  have e1 := hm x1 v (.tail _ (.head _))
  have R : EnvG (VR c.w g) m' (x0 :: x1 :: ns') (.undef :: (a.getD .undef) :: undefs k) :=
    ⟨.inl rfl, by cases a with | none => exact .inl rfl | some sv => exact .inr ⟨v, e1, ha⟩, env_init (vs := []) (args := []) rfl ((Nat.zero_add k).trans (Nat.add_left_cancel (hk2.trans (Nat.add_comm ns'.length 2)))) fun x u hm => by simp at hm⟩
  refine hT (c.callee qual scope L' f cdv g') m' { s with heap := h, toks := tk } g D v P rfl rfl O' C' hnd ⟨F', ⟨us, is, n', N', hi, hz, hne⟩, hm x0 _ (.head _), R⟩ e1 (by cases a <;> exact ha) ?_
  rintro r h2 tk2 g2 sv m2 F2 ⟨us2, is2, n2, N2, hi2, hz2, hne2⟩ hs2 hK hv2
  exact fin (.ret r) h2 tk2 m2 _ F2 N2 fun F3 N3 => kk r _ _ _ _ F3 ⟨us2, is2, n2, N3, hi2, hz2, hne2⟩ hs2 hK hv2
end

theorem fs_all (w : World) : FS w 28 := f_law_together w (f_law_narrowed w (f_law_can w (f_law_true w (f_law_deeds w (f_law_traps w (f_law_results w (f_law_floor w (f_law_ok w (f_opposite w (f_narrow w (f_apart w (f_without w (f_below w (f_meet w (f_widen w (f_join w (f_within w (f_contains w (f_mod w (f_div w (f_absolute w (f_neg w (f_mul w (f_sub w (f_add w (f_clipped w (f_full w fun _ h => absurd h (Nat.not_lt_zero _))))))))))))))))))))))))))))
section
open PySem.Calls PyProof.V
theorem dec_nil {us : List Value} {is : List Int} (hi : IntsAre us is) : decide (is = []) = decide (us = []) := by
  cases hi <;> rfl
variable {c : Cx} {ns : List Str} {n fi : Nat} {ρ : List SV} {D : Addr} {g : LedT} {m : Str → Option Value} {s : Shared}
/-- the test x == [] of a list of ints -/
theorem nil_t {x : Str} {r : Addr} {us : List Value} {is : List Int} {p px pl : Pos} {w2 : Sem Value} {Q : Bool → Shared → Prop} (O : c.Ok n) (hx : locOk c.cs x = true) (hm : m x = some (.ref r)) (F : Fr c.h₀ c.L s.heap m) (N : News c.h₀ c.L s.heap g)
    (hl : ∀ h', Fr c.h₀ c.L h' m → News c.h₀ c.L h' g → h'.IsList r us.toArray) (hi : IntsAre us is) (kk : ∀ h' tk, Fr c.h₀ c.L h' m → News c.h₀ c.L h' g → Q (decide (us = [])) { s with heap := h', toks := tk }) :
    wpAny (model PRG c.w) c.A (isTrue (.Compare (.Name x px) [.Eq] [.List [] pl] p) c.env w2) Q NoE s :=
  have hu := O.units
  wpAny_isTrue_Compare1 (ld_loc hx F hm (List_ (args_nil (newList_K F N fun l h' F' N' _ => eq_intsK (hl h' F' fun p hp => N' p (.tail _ hp)) hi ⟨_, (N' _ (.head _)).1, rfl, 0, rfl⟩ .nil (show c.un + 64 < cLine by omega) (wpAny_truthy_bool (by
    rw [dec_nil hi]
    exact kk h' s.toks F' fun p hp => N' p (.tail _ hp))))))) rfl
theorem fmod_in {z k : Int} (h : 0 < k) : 0 ≤ z.fmod k ∧ z.fmod k < k := ⟨Int.fmod_nonneg_of_pos _ h, Int.fmod_lt_of_pos _ h⟩
end
noncomputable def ns_pick : List Str := [Str.ofString "figures", Str.ofString "count"]
abbrev K_pick (k : Int) : SV → Prop := fun sv => ∃ z, sv = .int z ∧ 0 ≤ z ∧ z < k
theorem m_pick (w : World) {k : Int} (hk : 0 < k) : MSpec w 161 (28 + 10) (some (.int k)) (K_pick k) := by
  refine' mspec_of (n := 28) ns_pick 0 (tabs w) (fs_all w) (by decide) (by decide) ?ho ?hcd ?hb ?hsc ?hco ?hgen ?hk ?hT
  case ho => k_is
  case hcd => k_is
  case hb =>
    intro vs hv
    obtain ⟨a0, a1, rfl⟩ := len2 hv
    exact rfl
  case hsc => kernel_rfl!
  case hco => rfl
  case hgen => rfl
  case hk => rfl
  case hT =>
    intro c m s g D v Q hw hcs O C hnd St hv ha kk
    obtain ⟨us, is, n, N, hi, hz, hne⟩ := St.C
    obtain ⟨t, rfl⟩ := ha
    have l0 : locOk c.cs (nameAt ns_pick 0) = true := C.loc _ (.head _)
    refine wpAny_execs_cons (wpAny_If (nil_t O l0 St.fig St.F N (fun h' _ N' => ⟨_, (N' _ (.head _)).1, rfl, n, rfl⟩) hi fun h' tk F' N' => ?_))
    cases hq : decide (us = []) with
    | true => exact wpAny_execs_cons (wpAny_Return_some (wpAny_Constant_int (kk _ _ _ g (.int 0) m F' ⟨us, is, n, N', hi, hz, hne⟩ .refl ⟨0, rfl, Int.le_refl 0, hk⟩ ⟨_, rfl⟩)))
    | false =>
      refine wpAny_execs_nil (wpAny_execs_cons (wpAny_Return_some (wpAny_BinOp (PyProof.Rows.MethodCall_ (ld_loc (s := { s with heap := h', toks := tk }) l0 F' St.fig (PySem.W.kl_method N' (.head _) PySem.F.slot_list_pop PySem.F.type_list_pop (PyProof.Rows.callWith_method0 (PySem.W.kpa_pop (s := { s with heap := h', toks := tk }) F' N' (.head hne) hi (List.length_pos_iff.mpr (of_decide_eq_false hq)) (by rw [PySem.sizeLine_eq]; exact Nat.le_trans hz (by decide)) fun h2 t2 F2 N2 hi2 => ld_loc (s := { s with heap := h2, toks := tk }) (C.loc (nameAt ns_pick 1) (.tail _ (.head _))) F2 hv (PyProof.Rows.mod_int' (Int.ne_of_gt hk) ?_)))))))))
      exact kk _ _ _ g (.int _) m F2 ⟨us.dropLast, is.dropLast, n + 1, N2, hi2, by rw [List.length_dropLast]; exact Nat.le_trans (Nat.sub_le _ _) hz, hne⟩ .refl ⟨_, rfl, fmod_in hk⟩ ⟨_, rfl⟩

section
open PySem.Calls PyProof.V
variable {c : Cx} {ns : List Str} {n fi : Nat} {ρ : List SV} {D : Addr} {g : LedT} {m : Str → Option Value} {s : Shared}
/-- an if whose test and body do not change the list -/
theorem ex_ifm {ic : IE} {ir : IS} {al : List Nat} {t : Expr} {b ss : List Stmt} {p : Pos} {rt : SV → Prop} {W : Prop} {Γ : Nat → FnT} {Q : Flow → Shared → Prop} (C : Ctx c ns n Γ) (hn : ns.Nodup) (ht : trOk ic = true) (hc : chkE (CK c ns n) ic t = true) (hcb : chkS (CK c ns n) ir al b = true)
    (hw : wpE Γ (froz ρ) ic (onB fun q => (q = true → wpS Γ ir ρ (fun _ => False) rt (fun _ => False)) ∧ (q = false → W))) (hnum : ∀ sv, rt sv → numV sv = true) (St : StM c ns fi ρ D g m s.heap)
    (kk : ∀ v h tk g' sv m', Fr c.h₀ c.L h m' → Cell c h D g' → Sub g g' → rt sv → VR c.w g' sv v → Q (.ret v) { s with heap := h, toks := tk })
    (kn : ∀ h tk g', W → Sub g g' → StM c ns fi ρ D g' m h → wpAny (model PRG c.w) c.A (execs ss c.env) Q NoE { s with heap := h, toks := tk }) : wpAny (model PRG c.w) c.A (execs (.If t b [] p :: ss) c.env) Q NoE s := by
  obtain ⟨us, is', n', hi, hz, hne, S⟩ := St.str
  refine wpAny_execs_cons (wpAny_If ((se_all C ic).tr _ _ ht hc onB_bool hw m _ s _ S.F S.N S.env fun q h tk G F N hs hK => ?_))
  have hm := hs _ (.head _)
  have hs' := off_sub hs hne
  have S2 : StM c ns fi ρ D (offD D G) m h := ⟨F, cell_off N hm hi hz, St.fig, EnvG.imp (fun _ _ => VR.mono hs') (fun _ _ => rfl) St.R⟩
  cases q with
  | false => exact wpAny_execs_nil (kn h tk _ (hK.2 rfl) hs' S2)
  | true =>
    exact wpAny_mono (ex_tail (s := { s with heap := h, toks := tk }) C hn hcb (hK.1 rfl) hnum S2 (Q := fun fl s' => ∃ v, fl = .ret v ∧ Q (.ret v) s') fun v h2 tk2 g2 sv m2 F2 C2 hs2 hr hv2 => ⟨v, rfl, kk v h2 tk2 g2 sv m2 F2 C2 (hs'.trans hs2) hr hv2⟩) (fun fl s' ⟨v, e, h⟩ => by subst e; exact h) fun _ _ h => h
theorem ae_int {k : Int} {i : Nat} {p : Pos} : ArE c m g (.Constant (.int k) i p) (some (.int k)) := fun _ _ _ kk => wpAny_Constant_int (kk _ _ ⟨_, rfl⟩)
theorem ae_scr {x : Str} {sc : Addr} {p : Pos} (hx : locOk c.cs x = true) (hm : m x = some (.ref sc)) (hS : Scr c sc) : ArE c m g (.Name x p) none := fun _ s F kk => ld_loc hx F hm (kk _ s.toks ⟨sc, rfl, hS⟩)
theorem ae_var {x : Str} {v : Value} {sv : SV} {p : Pos} (hx : locOk c.cs x = true) (hm : m x = some v) (hv : VR c.w g sv v) : ArE c m g (.Name x p) (some sv) := fun _ s F kk => ld_loc hx F hm (kk _ s.toks hv)
/-- x[k] of the script -/
theorem Scr.at (O : c.Ok n) {sc : Addr} (hS : Scr c sc) : ∃ xs l, IntsAre xs l ∧ xs.length ≤ 63 ∧ ∀ {h : Heap} {m : Str → Option Value}, Fr c.h₀ c.L h m → h.IsList sc xs.toArray := by
  obtain ⟨xs, l, hb, hi, hl⟩ := hS
  exact ⟨xs, l, hi, hl, fun F => F.lst (PySem.W.stays_list O.below.stays hb)⟩
/-- script[near % len(script)] % 4294967296 - 2147483648 -/
theorem scr_tail {x y ln : Str} {k : Int} {t : Tok} {xs : List Value} {l : List Int} {sc : Addr} {i1 i2 : Nat} {p1 p2 p3 p4 p5 p6 p7 p8 p9 p10 p11 : Pos} {Q : Value → Shared → Prop} (O : c.Ok n) (hx : locOk c.cs x = true) (hy : locOk c.cs y = true) (hln : globOk c.cs ln = true) (hlb : nsIn (hd.heap_39 c.w.params) mainGlobals ln = some none) (hl : ln = Str.ofString "len")
    (hmx : m x = some (.ref sc)) (hmy : m y = some (.int k t)) (F : Fr c.h₀ c.L s.heap m) (hL : s.heap.IsList sc xs.toArray) (hi : IntsAre xs l) (hne : xs ≠ []) (hlen : xs.length ≤ 63) (kk : ∀ (z : Int) (t tk : Tok), Q (.int (z.fmod 4294967296 - 2147483648) t) { s with toks := tk }) :
    wpAny (model PRG c.w) c.A (eval (.BinOp (.BinOp (.Subscript (.Name x p1) (.BinOp (.Name y p2) .Mod (.Call (.Name ln p3) [.Name x p4] [] p5) p6) p7) .Mod (.Constant (.int 4294967296) i1 p8) p9) .Sub (.Constant (.int 2147483648) i2 p10) p11) c.env) Q NoE s := by
  have hll : l.length = xs.length := (IntsAre.length hi).symm
  have hpos : 0 < xs.length := List.length_pos_iff.mpr hne
  have h0 : (0 : Int) < l.length := by rw [hll]; exact Int.ofNat_lt.mpr hpos
  have hbig : (l.length : Int) < 2 ^ 63 := by rw [hll]; exact Int.lt_of_le_of_lt (Int.ofNat_le.mpr hlen) (by decide)
  refine wpAny_BinOp (wpAny_BinOp (PyProof.Rows.Subscript_ (ld_loc hx F hmx (wpAny_BinOp (ld_loc hy F hmy (Call_ (ld_blt (v := .builtin "len") O hln F hlb (by rw [hl]; exact PySem.boot_len) (by rw [hl]; decide +kernel) (callWith_builtin1 (args_cons (ld_loc hx F hmx (args_nil (PySem.W.len_ints_fit hL hi (by rw [hll]; exact Nat.lt_of_le_of_lt hlen (by decide)) (PyProof.Rows.mod_int' (Int.ne_of_gt h0) (PyProof.Rows.item_list_ints hL hi (fmod_in h0).1 (fmod_in h0).2 (Int.lt_trans (fmod_in h0).2 hbig) (fun t => ?_) ?_ ?_))))) (star_cons rfl)) (star_cons rfl) rfl))))))))
  · exact wpAny_Constant_int (PyProof.Rows.mod_int' (by decide) (wpAny_Constant_int (PyProof.Rows.sub_int (kk _ _ _))))
  · rfl
  · intro r; rfl
end

theorem gn_pick (w : World) : nsIn (hd.heap_39 w.params) mainGlobals (Str.ofString "_law_pick") = some (some (.ref 161)) := okFn_is (by kernel_rfl!)
theorem gk_pick (w : World) : keepIn (hd.heap_39 w.params) (.ref 161) = true := by kernel_rfl!
theorem gn_end (w : World) : nsIn (hd.heap_39 w.params) mainGlobals (Str.ofString "_law_end") = some (some (.ref 168)) := okFn_is (by kernel_rfl!)
theorem gk_end (w : World) : keepIn (hd.heap_39 w.params) (.ref 168) = true := by kernel_rfl!
theorem gb_len (w : World) : nsIn (hd.heap_39 w.params) mainGlobals (Str.ofString "len") = some none := okBl_is (by kernel_rfl!)
section
open PySem.Calls PyProof.V
noncomputable def ns_end : List Str := [Str.ofString "figures", Str.ofString "script", Str.ofString "form", Str.ofString "near"]
abbrev K_end : SV → Prop := fun sv => ∃ k, sv = .int k ∧ InI k
theorem num_end (sv : SV) (h : K_end sv) : numV sv = true := by obtain ⟨k, rfl, _⟩ := h; exact rfl
theorem ck_of {c : Cx} {ns : List Str} {n : Nat} {sc : Scope} (h : c.cs = sc) : CK c ns n = ⟨ns, sc, n⟩ := by rw [← h]
theorem sq_in {c : Int} (h0 : 0 ≤ c) (h1 : c < 700) : InI (c * c) :=
  ⟨Int.le_trans (by decide) (Int.mul_nonneg h0 h0), Int.le_trans (Int.mul_le_mul (Int.le_of_lt h1) (Int.le_of_lt h1) h0 (by decide)) (by decide)⟩
theorem mod_in (z : Int) : InI (z.fmod 4294967296 - 2147483648) :=
  ⟨Int.sub_le_sub_right (fmod_in (z := z) (show (0 : Int) < 4294967296 by decide)).1 2147483648, Int.le_of_lt_add_one (Int.sub_lt_sub_right (fmod_in (z := z) (show (0 : Int) < 4294967296 by decide)).2 2147483648)⟩
theorem m_end (w : World) : MSpec w 168 (29 + 10) none K_end := by
  refine' mspec_of (n := 29) ns_end 2 (tabs w) (fs_all w) (by decide) (by decide) ?ho ?hcd ?hb ?hsc ?hco ?hgen ?hk ?hT
  case ho => k_is
  case hcd => k_is
  case hb =>
    intro vs hv
    obtain ⟨a0, a1, rfl⟩ := len2 hv
    exact rfl
  case hsc => kernel_rfl!
  case hco => rfl
  case hgen => rfl
  case hk => rfl
  case hT =>
    intro c m s g D v Q hw hcs O C hnd St hv ha kk
    obtain ⟨sc, rfl, hS⟩ := ha
    subst hw
    have hgl : globOk c.cs (Str.ofString "_law_pick") = true := by rw [hcs]; kernel_rfl!
    refine ex_mc (n := 29) (fi := 0) (ns := ns_end) (fn := Str.ofString "_law_pick") (f := 161) (k := 28) (i := 2) (a := some (.int 5)) (K := K_pick 5) O (by decide) (m_pick c.w (by decide)) hgl C.loc hnd (by decide) (by decide) (by decide) (gn_pick c.w) (gk_pick c.w) rfl ae_int St fun h1 tk1 g1 sv1 m1 hK1 hs1 e1 St1 => ?_
    obtain ⟨z, rfl, hz0, hz1⟩ := hK1
    refine ex_mc (n := 29) (fi := 0) (ns := ns_end) (fn := Str.ofString "_law_pick") (f := 161) (k := 28) (i := 3) (a := some (.int 700)) (K := K_pick 700) O (by decide) (m_pick c.w (by decide)) hgl C.loc hnd (by decide) (by decide) (by decide) (gn_pick c.w) (gk_pick c.w) rfl ae_int St1 fun h2 tk2 g2 sv2 m2 hK2 hs2 e2 St2 => ?_
    obtain ⟨y, rfl, hy0, hy1⟩ := hK2
    have k2 : ∀ v h tk g' sv m', Fr c.h₀ c.L h m' → Cell c h D g' → Sub g2 g' → K_end sv → VR c.w g' sv v → Q (.ret v) { s with heap := h, toks := tk } := fun v h tk g' sv m' F C hs => kk v h tk g' sv m' F C ((hs1.trans hs2).trans hs)
    refine ex_ifm (n := 28) (fi := 0) (ns := ns_end) (Γ := CT) (al := []) (ic := .bi .eq (.var 2) (.lit (.int 0))) (ir := .ret (.bi .sub (.var 3) (.lit (.int 300)))) (rt := K_end) (W := True) C hnd rfl (by rw [ck_of hcs]; kernel_rfl!) (by rw [ck_of hcs]; kernel_rfl!) (by
      dsimp only [q_onB, q_onI, q_onS, q_onF, q_onL, q_onD, q_onT, q_onZ, q_onU_none, q_onU_bool, q_onU_int, q_onU_str, q_onU_tup, q_onU_ints, q_onU_strs, q_onU_fdct, q_un_neg, q_un_not, q_un_it0, q_un_it1, q_un_abs, q_un_mxL, q_un_mnL, q_un_one, q_bi_sub, q_bi_mul, q_bi_fdiv, q_bi_mod, q_bi_add, q_bi_lt, q_bi_le, q_bi_gt, q_bi_ge, q_bi_eq, q_bi_ne, q_bi_mx, q_bi_mn, q_cat, q_eq_s, q_eq_b, q_eq_n, q_eq_t, q_ne_s, q_ne_b, q_ne_n, q_ne_t, q_is_n, q_is_t, q_isnot_n, q_isnot_t, q_eqD_i, q_eqD_t, q_froz_n, q_froz_c, q_frz_none, q_frz_bool, q_frz_int, q_frz_str, q_frz_tup, q_frz_ints, q_frz_strs, q_frz_fdct, q_frz_undef, q_frz_dct, q_look_z, q_look_s, q_upd_z, q_upd_s, q_und_z, q_und_s, q_app_n, q_app_c, q_mkL, q_gI_n, q_gI_i, q_gI_s, q_gS_n, q_gS_i, q_toL_n, q_toL_c, q_dget, q_dset_c, q_dset_n, q_cond_t, q_cond_f, q_for_n, q_for_c, q_allI_i, q_allI_s, q_allI_f, q_allN_n, q_allN_c, q_allK_n, q_allK_c, q_it_t, q_it_s, q_unr_n, q_unr_c, q_isD_none, q_isD_bool, q_isD_int, q_isD_str, q_isD_tup, q_isD_ints, q_isD_strs, q_isD_fdct, q_isD_undef, q_isD_dct, q_hasD_n, q_hasD_c, q_flat_none, q_flat_bool, q_flat_int, q_flat_str, q_flat_ints, q_flat_strs, q_flat_tup, q_flat_fdct, q_flat_dnil, q_flat_dcons, q_tor, q_for_b, q_tand, q_fand, q_nt, q_nf, u_done, u_set, u_set2, u_setD, u_setK, u_ifk, u_freeze, u_ret, u_cont, u_ifr, u_forr, u_ford, w_var, w_lit, w_un, w_bi, w_key, w_bo, w_ite, w_tup, w_call, w_lst, w_dict, w_anil, w_acons, ct_0, ct_1, ct_2, ct_3, ct_4, ct_5, ct_6, ct_7, ct_8, ct_9, ct_10, ct_11, ct_12, ct_13, ct_14, ct_15, ct_16, ct_17, ct_18, ct_19, ct_20, ct_21, ct_22, ct_23, ct_24, ct_25, ct_26, ct_27, Nat.reduceBEq, Nat.reduceAdd, List.map, List.contains, List.elem]
      exact ⟨fun _ => ⟨_, rfl, by constructor <;> omega⟩, fun _ => trivial⟩) num_end St2 k2 fun h3 tk3 g3 _ hs3 St3 => ?_
    have k3 : ∀ v h tk g' sv m', Fr c.h₀ c.L h m' → Cell c h D g' → Sub g3 g' → K_end sv → VR c.w g' sv v → Q (.ret v) { s with heap := h, toks := tk } := fun v h tk g' sv m' F C hs => k2 v h tk g' sv m' F C (hs3.trans hs)
    refine ex_ifm (n := 28) (fi := 0) (ns := ns_end) (Γ := CT) (al := []) (ic := .bi .eq (.var 2) (.lit (.int 1))) (ir := .ret (.bi .sub (.var 3) (.lit (.int 2147483648)))) (rt := K_end) (W := True) C hnd rfl (by rw [ck_of hcs]; kernel_rfl!) (by rw [ck_of hcs]; kernel_rfl!) (by
      dsimp only [q_onB, q_onI, q_onS, q_onF, q_onL, q_onD, q_onT, q_onZ, q_onU_none, q_onU_bool, q_onU_int, q_onU_str, q_onU_tup, q_onU_ints, q_onU_strs, q_onU_fdct, q_un_neg, q_un_not, q_un_it0, q_un_it1, q_un_abs, q_un_mxL, q_un_mnL, q_un_one, q_bi_sub, q_bi_mul, q_bi_fdiv, q_bi_mod, q_bi_add, q_bi_lt, q_bi_le, q_bi_gt, q_bi_ge, q_bi_eq, q_bi_ne, q_bi_mx, q_bi_mn, q_cat, q_eq_s, q_eq_b, q_eq_n, q_eq_t, q_ne_s, q_ne_b, q_ne_n, q_ne_t, q_is_n, q_is_t, q_isnot_n, q_isnot_t, q_eqD_i, q_eqD_t, q_froz_n, q_froz_c, q_frz_none, q_frz_bool, q_frz_int, q_frz_str, q_frz_tup, q_frz_ints, q_frz_strs, q_frz_fdct, q_frz_undef, q_frz_dct, q_look_z, q_look_s, q_upd_z, q_upd_s, q_und_z, q_und_s, q_app_n, q_app_c, q_mkL, q_gI_n, q_gI_i, q_gI_s, q_gS_n, q_gS_i, q_toL_n, q_toL_c, q_dget, q_dset_c, q_dset_n, q_cond_t, q_cond_f, q_for_n, q_for_c, q_allI_i, q_allI_s, q_allI_f, q_allN_n, q_allN_c, q_allK_n, q_allK_c, q_it_t, q_it_s, q_unr_n, q_unr_c, q_isD_none, q_isD_bool, q_isD_int, q_isD_str, q_isD_tup, q_isD_ints, q_isD_strs, q_isD_fdct, q_isD_undef, q_isD_dct, q_hasD_n, q_hasD_c, q_flat_none, q_flat_bool, q_flat_int, q_flat_str, q_flat_ints, q_flat_strs, q_flat_tup, q_flat_fdct, q_flat_dnil, q_flat_dcons, q_tor, q_for_b, q_tand, q_fand, q_nt, q_nf, u_done, u_set, u_set2, u_setD, u_setK, u_ifk, u_freeze, u_ret, u_cont, u_ifr, u_forr, u_ford, w_var, w_lit, w_un, w_bi, w_key, w_bo, w_ite, w_tup, w_call, w_lst, w_dict, w_anil, w_acons, ct_0, ct_1, ct_2, ct_3, ct_4, ct_5, ct_6, ct_7, ct_8, ct_9, ct_10, ct_11, ct_12, ct_13, ct_14, ct_15, ct_16, ct_17, ct_18, ct_19, ct_20, ct_21, ct_22, ct_23, ct_24, ct_25, ct_26, ct_27, Nat.reduceBEq, Nat.reduceAdd, List.map, List.contains, List.elem]
      exact ⟨fun _ => ⟨_, rfl, by constructor <;> omega⟩, fun _ => trivial⟩) num_end St3 k3 fun h4 tk4 g4 _ hs4 St4 => ?_
    have k4 : ∀ v h tk g' sv m', Fr c.h₀ c.L h m' → Cell c h D g' → Sub g4 g' → K_end sv → VR c.w g' sv v → Q (.ret v) { s with heap := h, toks := tk } := fun v h tk g' sv m' F C hs => k3 v h tk g' sv m' F C (hs4.trans hs)
    refine ex_ifm (n := 28) (fi := 0) (ns := ns_end) (Γ := CT) (al := []) (ic := .bi .eq (.var 2) (.lit (.int 2))) (ir := .ret (.bi .sub (.lit (.int 2147483647)) (.var 3))) (rt := K_end) (W := True) C hnd rfl (by rw [ck_of hcs]; kernel_rfl!) (by rw [ck_of hcs]; kernel_rfl!) (by
      dsimp only [q_onB, q_onI, q_onS, q_onF, q_onL, q_onD, q_onT, q_onZ, q_onU_none, q_onU_bool, q_onU_int, q_onU_str, q_onU_tup, q_onU_ints, q_onU_strs, q_onU_fdct, q_un_neg, q_un_not, q_un_it0, q_un_it1, q_un_abs, q_un_mxL, q_un_mnL, q_un_one, q_bi_sub, q_bi_mul, q_bi_fdiv, q_bi_mod, q_bi_add, q_bi_lt, q_bi_le, q_bi_gt, q_bi_ge, q_bi_eq, q_bi_ne, q_bi_mx, q_bi_mn, q_cat, q_eq_s, q_eq_b, q_eq_n, q_eq_t, q_ne_s, q_ne_b, q_ne_n, q_ne_t, q_is_n, q_is_t, q_isnot_n, q_isnot_t, q_eqD_i, q_eqD_t, q_froz_n, q_froz_c, q_frz_none, q_frz_bool, q_frz_int, q_frz_str, q_frz_tup, q_frz_ints, q_frz_strs, q_frz_fdct, q_frz_undef, q_frz_dct, q_look_z, q_look_s, q_upd_z, q_upd_s, q_und_z, q_und_s, q_app_n, q_app_c, q_mkL, q_gI_n, q_gI_i, q_gI_s, q_gS_n, q_gS_i, q_toL_n, q_toL_c, q_dget, q_dset_c, q_dset_n, q_cond_t, q_cond_f, q_for_n, q_for_c, q_allI_i, q_allI_s, q_allI_f, q_allN_n, q_allN_c, q_allK_n, q_allK_c, q_it_t, q_it_s, q_unr_n, q_unr_c, q_isD_none, q_isD_bool, q_isD_int, q_isD_str, q_isD_tup, q_isD_ints, q_isD_strs, q_isD_fdct, q_isD_undef, q_isD_dct, q_hasD_n, q_hasD_c, q_flat_none, q_flat_bool, q_flat_int, q_flat_str, q_flat_ints, q_flat_strs, q_flat_tup, q_flat_fdct, q_flat_dnil, q_flat_dcons, q_tor, q_for_b, q_tand, q_fand, q_nt, q_nf, u_done, u_set, u_set2, u_setD, u_setK, u_ifk, u_freeze, u_ret, u_cont, u_ifr, u_forr, u_ford, w_var, w_lit, w_un, w_bi, w_key, w_bo, w_ite, w_tup, w_call, w_lst, w_dict, w_anil, w_acons, ct_0, ct_1, ct_2, ct_3, ct_4, ct_5, ct_6, ct_7, ct_8, ct_9, ct_10, ct_11, ct_12, ct_13, ct_14, ct_15, ct_16, ct_17, ct_18, ct_19, ct_20, ct_21, ct_22, ct_23, ct_24, ct_25, ct_26, ct_27, Nat.reduceBEq, Nat.reduceAdd, List.map, List.contains, List.elem]
      exact ⟨fun _ => ⟨_, rfl, by constructor <;> omega⟩, fun _ => trivial⟩) num_end St4 k4 fun h5 tk5 g5 _ hs5 St5 => ?_
    have k5 : ∀ v h tk g' sv m', Fr c.h₀ c.L h m' → Cell c h D g' → Sub g5 g' → K_end sv → VR c.w g' sv v → Q (.ret v) { s with heap := h, toks := tk } := fun v h tk g' sv m' F C hs => k4 v h tk g' sv m' F C (hs5.trans hs)
    refine ex_ifm (n := 28) (fi := 0) (ns := ns_end) (Γ := CT) (al := []) (ic := .bi .eq (.var 2) (.lit (.int 3))) (ir := .ret (.lit (.int 0))) (rt := K_end) (W := True) C hnd rfl (by rw [ck_of hcs]; kernel_rfl!) (by rw [ck_of hcs]; kernel_rfl!) (by
      dsimp only [q_onB, q_onI, q_onS, q_onF, q_onL, q_onD, q_onT, q_onZ, q_onU_none, q_onU_bool, q_onU_int, q_onU_str, q_onU_tup, q_onU_ints, q_onU_strs, q_onU_fdct, q_un_neg, q_un_not, q_un_it0, q_un_it1, q_un_abs, q_un_mxL, q_un_mnL, q_un_one, q_bi_sub, q_bi_mul, q_bi_fdiv, q_bi_mod, q_bi_add, q_bi_lt, q_bi_le, q_bi_gt, q_bi_ge, q_bi_eq, q_bi_ne, q_bi_mx, q_bi_mn, q_cat, q_eq_s, q_eq_b, q_eq_n, q_eq_t, q_ne_s, q_ne_b, q_ne_n, q_ne_t, q_is_n, q_is_t, q_isnot_n, q_isnot_t, q_eqD_i, q_eqD_t, q_froz_n, q_froz_c, q_frz_none, q_frz_bool, q_frz_int, q_frz_str, q_frz_tup, q_frz_ints, q_frz_strs, q_frz_fdct, q_frz_undef, q_frz_dct, q_look_z, q_look_s, q_upd_z, q_upd_s, q_und_z, q_und_s, q_app_n, q_app_c, q_mkL, q_gI_n, q_gI_i, q_gI_s, q_gS_n, q_gS_i, q_toL_n, q_toL_c, q_dget, q_dset_c, q_dset_n, q_cond_t, q_cond_f, q_for_n, q_for_c, q_allI_i, q_allI_s, q_allI_f, q_allN_n, q_allN_c, q_allK_n, q_allK_c, q_it_t, q_it_s, q_unr_n, q_unr_c, q_isD_none, q_isD_bool, q_isD_int, q_isD_str, q_isD_tup, q_isD_ints, q_isD_strs, q_isD_fdct, q_isD_undef, q_isD_dct, q_hasD_n, q_hasD_c, q_flat_none, q_flat_bool, q_flat_int, q_flat_str, q_flat_ints, q_flat_strs, q_flat_tup, q_flat_fdct, q_flat_dnil, q_flat_dcons, q_tor, q_for_b, q_tand, q_fand, q_nt, q_nf, u_done, u_set, u_set2, u_setD, u_setK, u_ifk, u_freeze, u_ret, u_cont, u_ifr, u_forr, u_ford, w_var, w_lit, w_un, w_bi, w_key, w_bo, w_ite, w_tup, w_call, w_lst, w_dict, w_anil, w_acons, ct_0, ct_1, ct_2, ct_3, ct_4, ct_5, ct_6, ct_7, ct_8, ct_9, ct_10, ct_11, ct_12, ct_13, ct_14, ct_15, ct_16, ct_17, ct_18, ct_19, ct_20, ct_21, ct_22, ct_23, ct_24, ct_25, ct_26, ct_27, Nat.reduceBEq, Nat.reduceAdd, List.map, List.contains, List.elem]
      exact ⟨fun _ => ⟨_, rfl, by constructor <;> omega⟩, fun _ => trivial⟩) num_end St5 k5 fun h6 tk6 g6 _ hs6 St6 => ?_
    have k6 : ∀ v h tk g' sv m', Fr c.h₀ c.L h m' → Cell c h D g' → Sub g6 g' → K_end sv → VR c.w g' sv v → Q (.ret v) { s with heap := h, toks := tk } := fun v h tk g' sv m' F C hs => k5 v h tk g' sv m' F C (hs6.trans hs)
    obtain ⟨xs, l, hi, hl, hL⟩ := Scr.at O hS
    have hm1 : m2 (nameAt ns_end 1) = some (.ref sc) := (e2 1 (by decide) (by decide)).trans ((e1 1 (by decide) (by decide)).trans hv)
    obtain ⟨v3, hm3, t3, rfl⟩ := EnvG.look (i := 3) St6.R (by show SV.int y ≠ .undef; nofun)
    obtain ⟨us, is, n, N, hi', hz, hne⟩ := St6.C
    refine wpAny_execs_cons (wpAny_If (nil_t (c := c) (m := m2) (x := nameAt ns_end 1) (r := sc) O (C.loc _ (.tail _ (.head _))) hm1 St6.F N (fun h' F' _ => hL F') hi fun h' tk F' N' => ?_))
    cases hq : decide (xs = []) with
    | true => exact ex_tail (s := { s with heap := h', toks := tk }) (m := m2) (ρ := upd (upd (SV.undef :: none.getD SV.undef :: undefs 2) 2 (SV.int z)) 3 (SV.int y)) (n := 28) (fi := 0) (ns := ns_end) (Γ := CT) (is := .ret (.bi .mul (.var 3) (.var 3))) (al := []) (rt := K_end) C hnd (by rw [ck_of hcs]; kernel_rfl!) (by
        have nb := nab (Int.le_trans (by decide) hy0) (Int.le_trans (Int.le_of_lt hy1) (by decide))
        dsimp only [q_onB, q_onI, q_onS, q_onF, q_onL, q_onD, q_onT, q_onZ, q_onU_none, q_onU_bool, q_onU_int, q_onU_str, q_onU_tup, q_onU_ints, q_onU_strs, q_onU_fdct, q_un_neg, q_un_not, q_un_it0, q_un_it1, q_un_abs, q_un_mxL, q_un_mnL, q_un_one, q_bi_sub, q_bi_mul, q_bi_fdiv, q_bi_mod, q_bi_add, q_bi_lt, q_bi_le, q_bi_gt, q_bi_ge, q_bi_eq, q_bi_ne, q_bi_mx, q_bi_mn, q_cat, q_eq_s, q_eq_b, q_eq_n, q_eq_t, q_ne_s, q_ne_b, q_ne_n, q_ne_t, q_is_n, q_is_t, q_isnot_n, q_isnot_t, q_eqD_i, q_eqD_t, q_froz_n, q_froz_c, q_frz_none, q_frz_bool, q_frz_int, q_frz_str, q_frz_tup, q_frz_ints, q_frz_strs, q_frz_fdct, q_frz_undef, q_frz_dct, q_look_z, q_look_s, q_upd_z, q_upd_s, q_und_z, q_und_s, q_app_n, q_app_c, q_mkL, q_gI_n, q_gI_i, q_gI_s, q_gS_n, q_gS_i, q_toL_n, q_toL_c, q_dget, q_dset_c, q_dset_n, q_cond_t, q_cond_f, q_for_n, q_for_c, q_allI_i, q_allI_s, q_allI_f, q_allN_n, q_allN_c, q_allK_n, q_allK_c, q_it_t, q_it_s, q_unr_n, q_unr_c, q_isD_none, q_isD_bool, q_isD_int, q_isD_str, q_isD_tup, q_isD_ints, q_isD_strs, q_isD_fdct, q_isD_undef, q_isD_dct, q_hasD_n, q_hasD_c, q_flat_none, q_flat_bool, q_flat_int, q_flat_str, q_flat_ints, q_flat_strs, q_flat_tup, q_flat_fdct, q_flat_dnil, q_flat_dcons, q_tor, q_for_b, q_tand, q_fand, q_nt, q_nf, u_done, u_set, u_set2, u_setD, u_setK, u_ifk, u_freeze, u_ret, u_cont, u_ifr, u_forr, u_ford, w_var, w_lit, w_un, w_bi, w_key, w_bo, w_ite, w_tup, w_call, w_lst, w_dict, w_anil, w_acons, ct_0, ct_1, ct_2, ct_3, ct_4, ct_5, ct_6, ct_7, ct_8, ct_9, ct_10, ct_11, ct_12, ct_13, ct_14, ct_15, ct_16, ct_17, ct_18, ct_19, ct_20, ct_21, ct_22, ct_23, ct_24, ct_25, ct_26, ct_27, Nat.reduceBEq, Nat.reduceAdd, List.map, List.contains, List.elem]
        exact ⟨⟨nb, nb⟩, _, rfl, sq_in hy0 hy1⟩) num_end ⟨F', ⟨us, is, n, N', hi', hz, hne⟩, St6.fig, St6.R⟩ k6
    | false =>
      exact wpAny_execs_nil (wpAny_execs_cons (wpAny_Return_some (scr_tail (s := { s with heap := h', toks := tk }) (c := c) (m := m2) (x := nameAt ns_end 1) (y := nameAt ns_end 3) (ln := Str.ofString "len") O (C.loc _ (.tail _ (.head _))) (C.loc _ (.tail _ (.tail _ (.tail _ (.head _))))) (by rw [hcs]; kernel_rfl!) (gb_len c.w) rfl hm1 hm3 F' (hL F') hi (of_decide_eq_false hq) hl fun z t tk => k6 _ _ tk g6 (.int _) _ F' ⟨us, is, n, N', hi', hz, hne⟩ .refl ⟨_, rfl, mod_in z⟩ ⟨_, rfl⟩)))
end

section
open PySem.Calls PyProof.V
noncomputable def ns_interval : List Str := [Str.ofString "figures", Str.ofString "script", Str.ofString "one", Str.ofString "two"]
abbrev K_iv : SV → Prop := fun sv => ∃ a b, sv = iv a b ∧ Rg a b
theorem num_iv (sv : SV) (h : K_iv sv) : numV sv = true := by obtain ⟨a, b, rfl, _⟩ := h; exact rfl
theorem m_interval (w : World) : MSpec w 175 (30 + 10) none K_iv := by
  refine' mspec_of (n := 30) ns_interval 2 (tabs w) (fs_all w) (by decide) (by decide) ?ho ?hcd ?hb ?hsc ?hco ?hgen ?hk ?hT
  case ho => k_is
  case hcd => k_is
  case hb =>
    intro vs hv
    obtain ⟨a0, a1, rfl⟩ := len2 hv
    exact rfl
  case hsc => kernel_rfl!
  case hco => rfl
  case hgen => rfl
  case hk => rfl
  case hT =>
    intro c m s g D v Q hw hcs O C hnd St hv ha kk
    obtain ⟨sc, rfl, hS⟩ := ha
    subst hw
    have hgl : globOk c.cs (Str.ofString "_law_end") = true := by rw [hcs]; kernel_rfl!
    have l1 := C.loc (nameAt ns_interval 1) (.tail _ (.head _))
    refine ex_mc (n := 30) (fi := 0) (ns := ns_interval) (fn := Str.ofString "_law_end") (f := 168) (k := 29) (i := 2) (a := none) (K := K_end) O (by decide) (m_end c.w) hgl C.loc hnd (by decide) (by decide) (by decide) (gn_end c.w) (gk_end c.w) rfl (ae_scr l1 hv hS) St fun h1 tk1 g1 sv1 m1 hK1 hs1 e1 St1 => ?_
    obtain ⟨a, rfl, ha⟩ := hK1
    refine ex_mc (n := 30) (fi := 0) (ns := ns_interval) (fn := Str.ofString "_law_end") (f := 168) (k := 29) (i := 3) (a := none) (K := K_end) O (by decide) (m_end c.w) hgl C.loc hnd (by decide) (by decide) (by decide) (gn_end c.w) (gk_end c.w) rfl (ae_scr l1 ((e1 1 (by decide) (by decide)).trans hv) hS) St1 fun h2 tk2 g2 sv2 m2 hK2 hs2 e2 St2 => ?_
    obtain ⟨b, rfl, hb⟩ := hK2
    refine ex_tail (m := m2) (ρ := upd (upd (SV.undef :: none.getD SV.undef :: undefs 2) 2 (SV.int a)) 3 (SV.int b)) (n := 28) (fi := 0) (ns := ns_interval) (Γ := CT) (is := .ifr (.bi .gt (.var 2) (.var 3)) (.ret (.tup (.var 3) (.var 2))) (.ret (.tup (.var 2) (.var 3)))) (al := []) (rt := K_iv) C hnd (by rw [ck_of hcs]; kernel_rfl!) (by
      dsimp only [q_onB, q_onI, q_onS, q_onF, q_onL, q_onD, q_onT, q_onZ, q_onU_none, q_onU_bool, q_onU_int, q_onU_str, q_onU_tup, q_onU_ints, q_onU_strs, q_onU_fdct, q_un_neg, q_un_not, q_un_it0, q_un_it1, q_un_abs, q_un_mxL, q_un_mnL, q_un_one, q_bi_sub, q_bi_mul, q_bi_fdiv, q_bi_mod, q_bi_add, q_bi_lt, q_bi_le, q_bi_gt, q_bi_ge, q_bi_eq, q_bi_ne, q_bi_mx, q_bi_mn, q_cat, q_eq_s, q_eq_b, q_eq_n, q_eq_t, q_ne_s, q_ne_b, q_ne_n, q_ne_t, q_is_n, q_is_t, q_isnot_n, q_isnot_t, q_eqD_i, q_eqD_t, q_froz_n, q_froz_c, q_frz_none, q_frz_bool, q_frz_int, q_frz_str, q_frz_tup, q_frz_ints, q_frz_strs, q_frz_fdct, q_frz_undef, q_frz_dct, q_look_z, q_look_s, q_upd_z, q_upd_s, q_und_z, q_und_s, q_app_n, q_app_c, q_mkL, q_gI_n, q_gI_i, q_gI_s, q_gS_n, q_gS_i, q_toL_n, q_toL_c, q_dget, q_dset_c, q_dset_n, q_cond_t, q_cond_f, q_for_n, q_for_c, q_allI_i, q_allI_s, q_allI_f, q_allN_n, q_allN_c, q_allK_n, q_allK_c, q_it_t, q_it_s, q_unr_n, q_unr_c, q_isD_none, q_isD_bool, q_isD_int, q_isD_str, q_isD_tup, q_isD_ints, q_isD_strs, q_isD_fdct, q_isD_undef, q_isD_dct, q_hasD_n, q_hasD_c, q_flat_none, q_flat_bool, q_flat_int, q_flat_str, q_flat_ints, q_flat_strs, q_flat_tup, q_flat_fdct, q_flat_dnil, q_flat_dcons, q_tor, q_for_b, q_tand, q_fand, q_nt, q_nf, u_done, u_set, u_set2, u_setD, u_setK, u_ifk, u_freeze, u_ret, u_cont, u_ifr, u_forr, u_ford, w_var, w_lit, w_un, w_bi, w_key, w_bo, w_ite, w_tup, w_call, w_lst, w_dict, w_anil, w_acons, ct_0, ct_1, ct_2, ct_3, ct_4, ct_5, ct_6, ct_7, ct_8, ct_9, ct_10, ct_11, ct_12, ct_13, ct_14, ct_15, ct_16, ct_17, ct_18, ct_19, ct_20, ct_21, ct_22, ct_23, ct_24, ct_25, ct_26, ct_27, Nat.reduceBEq, Nat.reduceAdd, List.map, List.contains, List.elem]
      exact ⟨fun p => ⟨b, a, rfl, Int.le_of_lt (of_decide_eq_true p), hb.1, ha.2⟩, fun p => ⟨a, b, rfl, Int.not_lt.mp (of_decide_eq_false p), ha.1, hb.2⟩⟩) num_iv St2 fun v h tk g' sv m' F C hs => kk v h tk g' sv m' F C ((hs1.trans hs2).trans hs)
end

section
open PySem.Calls PyProof.V
section
variable {c : Cx} {m : Str → Option Value} {s : Shared} {g : LedT} {x : Str} {r : Addr} {v0 v1 : Value} {k : Nat} {p1 p2 p3 : Pos} {Q : Value → Shared → Prop}
theorem it0_ev (hx : locOk c.cs x = true) (hm : m x = some (.ref r)) (F : Fr c.h₀ c.L s.heap m) (N : News c.h₀ c.L s.heap g) (ht : (r, tup2 v0 v1) ∈ g) (kk : ∀ tk, Q v0 { s with toks := tk }) :
    wpAny (model PRG c.w) c.A (eval (.Subscript (.Name x p1) (.Constant (.int 0) k p2) p3) c.env) Q NoE s :=
  PyProof.Rows.Subscript_ (ld_loc hx F hm (wpAny_Constant_int (item_tupleT (l := [v0, v1]) (News.isTup N ht) (by decide) (by decide) rfl rfl (kk _) rfl)))
theorem it1_ev (hx : locOk c.cs x = true) (hm : m x = some (.ref r)) (F : Fr c.h₀ c.L s.heap m) (N : News c.h₀ c.L s.heap g) (ht : (r, tup2 v0 v1) ∈ g) (kk : ∀ tk, Q v1 { s with toks := tk }) :
    wpAny (model PRG c.w) c.A (eval (.Subscript (.Name x p1) (.Constant (.int 1) k p2) p3) c.env) Q NoE s :=
  PyProof.Rows.Subscript_ (ld_loc hx F hm (wpAny_Constant_int (item_tupleT (l := [v0, v1]) (News.isTup N ht) (by decide) (by decide) rfl rfl (kk _) rfl)))
end
theorem st_m {c : Cx} {m : Str → Option Value} {s : Shared} {g : LedT} {x : Str} {v : Value} {Q : Unit → Shared → Prop} (hx : locOk c.cs x = true) (F : Fr c.h₀ c.L s.heap m) (N : News c.h₀ c.L s.heap g)
    (kk : ∀ h' m', Fr c.h₀ c.L h' m' → News c.h₀ c.L h' g → m' x = some v → (∀ y, y ≠ x → m' y = m y) → Q () { s with heap := h', toks := s.toks + 1 }) : wpAny (model PRG c.w) c.A (storeName c.env x v) Q NoE s :=
  st_loc hx F N fun h' F' N' => kk h' _ F' N' (if_pos rfl) fun y hy => if_neg hy
theorem half_in {x0 x1 : Int} (h : x0 ≤ x1) : x0 ≤ x0 + (x1 - x0).fdiv 2 ∧ x0 + (x1 - x0).fdiv 2 ≤ x1 := by
  rw [Int.fdiv_eq_ediv_of_nonneg _ (by decide)]
  have h0 := Int.sub_nonneg_of_le h
  exact ⟨Int.le_add_of_nonneg_right (Int.ediv_nonneg h0 (by decide)), Int.add_le_of_le_sub_left (Int.ediv_le_self 2 h0)⟩
theorem rest_in {x0 x1 z : Int} (h : x0 ≤ x1) : x0 ≤ x0 + z.fmod (x1 - x0 + 1) ∧ x0 + z.fmod (x1 - x0 + 1) ≤ x1 := by
  have := fmod_in (z := z) (show (0 : Int) < x1 - x0 + 1 by omega)
  omega
theorem mem_four {x0 x1 a b : Int} (h : x0 ≤ x1) (ha : x0 ≤ a ∧ a ≤ x1) (hb : x0 ≤ b ∧ b ≤ x1) : Mem4 x0 x1 [x0, x1, a, b] :=
  List.forall_mem_cons.mpr ⟨⟨Int.le_refl _, h⟩, List.forall_mem_cons.mpr ⟨⟨h, Int.le_refl _⟩, List.forall_mem_cons.mpr ⟨ha, List.forall_mem_cons.mpr ⟨hb, List.forall_mem_nil _⟩⟩⟩⟩
noncomputable def ns_inside : List Str := [Str.ofString "figures", Str.ofString "ends", Str.ofString "width", Str.ofString "found"]
abbrev K_in (x0 x1 : Int) : SV → Prop := fun sv => ∃ l, sv = .ints l ∧ l.length = 4 ∧ Mem4 x0 x1 l
theorem m_inside (w : World) {x0 x1 : Int} (hx : Rg x0 x1) : MSpec w 182 (29 + 10) (some (iv x0 x1)) (K_in x0 x1) := by
  refine' mspec_of (n := 29) ns_inside 2 (tabs w) (fs_all w) (by decide) (by decide) ?ho ?hcd ?hb ?hsc ?hco ?hgen ?hk ?hT
  case ho => k_is
  case hcd => k_is
  case hb =>
    intro vs hv
    obtain ⟨a0, a1, rfl⟩ := len2 hv
    exact rfl
  case hsc => kernel_rfl!
  case hco => rfl
  case hgen => rfl
  case hk => rfl
  case hT =>
    intro c m s g D v Q hw hcs O C hnd St hv ha kk
    obtain ⟨r, va, vb, rfl, hr, ⟨t0, rfl⟩, ⟨t1, rfl⟩⟩ := ha
    subst hw
    have hgl : globOk c.cs (Str.ofString "_law_pick") = true := by rw [hcs]; kernel_rfl!
    have l1 := C.loc (nameAt ns_inside 1) (.tail _ (.head _))
    have l2 := C.loc (nameAt ns_inside 2) (.tail _ (.tail _ (.head _)))
    have l3 := C.loc (nameAt ns_inside 3) (.tail _ (.tail _ (.tail _ (.head _))))
    have nm : ∀ {i j : Nat}, i < 4 → j < 4 → i ≠ j → nameAt ns_inside i ≠ nameAt ns_inside j := fun hi hj h e => h (nameAt_inj hnd hi hj e)
    obtain ⟨us, is, n, N, hi, hz, hne⟩ := St.C
    have hr' := List.mem_cons_of_mem (D, W.listOf us.toArray n) hr
    refine wpAny_execs_cons (wpAny_Assign_Name (wpAny_BinOp (it1_ev (c := c) (x := nameAt ns_inside 1) l1 hv St.F N hr' fun tk => it0_ev (s := { s with toks := tk }) (c := c) (x := nameAt ns_inside 1) l1 hv St.F N hr' fun tk => PyProof.Rows.sub_int (s := { s with toks := tk }) ?_)) (swap_ok rfl))
    refine st_m (s := { s with toks := _ }) l2 St.F N fun h1 m1 F1 N1 w1 e1 => ?_
    have v1 := (e1 _ (nm (i := 1) (j := 2) (by decide) (by decide) (by decide))).trans hv
    have hint : interactive c.env = false := by show (c.cs.kind == .module && _) = false; rw [O.kind]; rfl
    have np : Builtin.divisionGoesByPylong (x1 - x0) 2 = false := noPy (by decide)
    refine wpAny_execs_cons (wpAny_Assign_Name (List_ (args_cons (it0_ev (s := { s with heap := h1, toks := _ }) (c := c) (x := nameAt ns_inside 1) l1 v1 F1 N1 hr' fun tk => args_cons (it1_ev (s := { s with heap := h1, toks := tk }) (c := c) (x := nameAt ns_inside 1) l1 v1 F1 N1 hr' fun tk => args_cons (wpAny_BinOp (it0_ev (s := { s with heap := h1, toks := tk }) (c := c) (x := nameAt ns_inside 1) l1 v1 F1 N1 hr' fun tk =>
      wpAny_BinOp (ld_loc (s := { s with heap := h1, toks := tk }) l2 F1 w1 (wpAny_Constant_int (PyProof.Rows.floordiv_int (by decide) (PyProof.Rows.add_int (args_nil (newList_K (s := { s with heap := h1, toks := _ }) F1 N1 (fun l h2 F2 N2 hlt => ?_) ?_))) (.inl np)))))) (star_cons rfl)) (star_cons rfl)) (star_cons rfl))) (swap_ok rfl))
    · refine (fun (k : ∀ t2 : Tok, News c.h₀ c.L h2 ((l, W.listOf [Value.int x0 t0, Value.int x1 t1, Value.int (x0 + (x1 - x0).fdiv 2) t2].toArray 0) :: (D, W.listOf us.toArray n) :: g) → _) => k _ N2) ?_
      clear N2
      intro t2 N2
      refine st_m (s := { s with heap := h2, toks := _ }) l3 F2 N2 fun h3 m3 F3 N3 w3 e3 => ?_
      have v3 := (e3 _ (nm (i := 1) (j := 3) (by decide) (by decide) (by decide))).trans v1
      have w2 := (e3 _ (nm (i := 2) (j := 3) (by decide) (by decide) (by decide))).trans w1
      have f3 := (e3 _ (nm (i := 0) (j := 3) (by decide) (by decide) (by decide))).trans ((e1 _ (nm (i := 0) (j := 2) (by decide) (by decide) (by decide))).trans St.fig)
      have hlD : l ≠ D := fun e => absurd (hlt _ (.head _)) (by rw [e]; exact Nat.lt_irrefl _)
      have hr3 := List.mem_cons_of_mem (l, W.listOf [Value.int x0 t0, Value.int x1 t1, Value.int (x0 + (x1 - x0).fdiv 2) t2].toArray 0) hr'
      have S3 : StM c ns_inside 0 [.undef, .undef, .undef, .undef] D ((l, W.listOf [Value.int x0 t0, Value.int x1 t1, Value.int (x0 + (x1 - x0).fdiv 2) t2].toArray 0) :: g) m3 h3 :=
        ⟨F3, ⟨us, is, n, fun p hp => (List.mem_cons.mp hp).elim (fun e => N3 p (.tail _ (e ▸ .head _))) fun hp => (List.mem_cons.mp hp).elim (fun e => N3 p (e ▸ .head _)) fun hp => N3 p (.tail _ (.tail _ hp)), hi, hz, List.forall_mem_cons.mpr ⟨hlD, hne⟩⟩, f3, ⟨.inl rfl, .inl rfl, .inl rfl, .inl rfl, True.intro⟩⟩
      refine wpAny_execs_cons (wpAny_Expr_any (PyProof.Rows.MethodCall_ (ld_loc (s := { s with heap := h3, toks := _ }) l3 F3 w3 (PySem.W.listMethod_K N3 (.head _) PySem.F.slot_list_append PySem.F.type_list_append (PyProof.Rows.callWith_method1 (args_cons (wpAny_BinOp (it0_ev (s := { s with heap := h3, toks := _ }) (c := c) (x := nameAt ns_inside 1) l1 v3 F3 N3 hr3 fun tk => wpAny_BinOp (wpAny_BinOp (mc_ev (s := { s with heap := h3, toks := tk }) (n := 29) (fi := 0) (ns := ns_inside) (fn := Str.ofString "_law_pick") (f := 161) (k := 28) (a := some (.int 911)) (K := K_pick 911) O (by decide) (m_pick c.w (by decide)) hgl (C.loc _ (.head _)) (gn_pick c.w) (gk_pick c.w) rfl ae_int S3 fun r4 h4 tk4 g4 sv4 F4 C4 hs4 hK4 hv4 => ?_)))) (star_cons rfl)) (star_cons rfl) rfl)))) hint)
      obtain ⟨z, rfl, hz0, hz1⟩ := hK4
      obtain ⟨t4, rfl⟩ := hv4
      obtain ⟨us4, is4, n4, N4, hi4, hz4, hne4⟩ := C4
      have hl4 := hs4 _ (.head _)
      refine wpAny_Constant_int (PyProof.Rows.mul_int (s := { s with heap := h4, toks := _ }) (wpAny_BinOp (ld_loc (s := { s with heap := h4, toks := _ }) l2 F4 w2 (wpAny_Constant_int (PyProof.Rows.add_int (PyProof.Rows.mod_int' (Int.ne_of_gt (Int.lt_add_one_iff.mpr (Int.sub_nonneg_of_le hx.1))) (PyProof.Rows.add_int (args_nil (PySem.W.append_K (s := { s with heap := h4, toks := _ }) (news := (l, W.listOf [Value.int x0 t0, Value.int x1 t1, Value.int (x0 + (x1 - x0).fdiv 2) t2].toArray 0) :: (D, W.listOf us4.toArray n4) :: offD l g4) F4 (fun p hp => ?_) (.head (List.forall_mem_cons.mpr ⟨Ne.symm hlD, offD_ne⟩)) (fun h5 F5 N5 => ?_) ?_)))))))) (mulOk (nab (Int.le_trans (by decide) hz0) (Int.le_trans (Int.le_of_lt hz1) (by decide)))))
      · exact (List.mem_cons.mp hp).elim (fun e => e ▸ N4 _ (.tail _ hl4)) fun hp => (List.mem_cons.mp hp).elim (fun e => e ▸ N4 _ (.head _)) fun hp => N4 _ (.tail _ (offD_sub p hp))
      · refine wpAny_execs_cons (wpAny_Return_some (ld_loc (s := { s with heap := h5, toks := _ }) l3 F5 w3 ?_))
        refine (fun (k : ∀ t5 : Tok, News c.h₀ c.L h5 ((l, W.listOf [Value.int x0 t0, Value.int x1 t1, Value.int (x0 + (x1 - x0).fdiv 2) t2, Value.int (x0 + (z * 7000003).fmod (x1 - x0 + 1)) t5].toArray 1) :: (D, W.listOf us4.toArray n4) :: offD l g4) → _) => k _ N5) ?_
        clear N5
        intro t5 N5
        refine kk (.ref l) h5 _ ((l, W.listOf [Value.int x0 t0, Value.int x1 t1, Value.int (x0 + (x1 - x0).fdiv 2) t2, Value.int (x0 + (z * 7000003).fmod (x1 - x0 + 1)) t5].toArray 1) :: offD l g4) (.ints [x0, x1, x0 + (x1 - x0).fdiv 2, x0 + (z * 7000003).fmod (x1 - x0 + 1)]) m3 F5 ⟨us4, is4, n4, fun p hp => ?_, hi4, hz4, List.forall_mem_cons.mpr ⟨hlD, fun q hq => hne4 q (offD_sub q hq)⟩⟩ (fun q hq => .tail _ (List.mem_filter.mpr ⟨hs4 q (.tail _ hq), decide_eq_true (Nat.ne_of_lt (hlt q (.tail _ hq)))⟩)) ⟨_, rfl, rfl, mem_four hx.1 (half_in hx.1) (rest_in hx.1)⟩ ⟨l, [_, _, _, _], _, rfl, .head _, .cons _ _ (.cons _ _ (.cons _ _ (.cons _ _ .nil)))⟩
        exact (List.mem_cons.mp hp).elim (fun e => N5 p (.tail _ (e ▸ .head _))) fun hp => (List.mem_cons.mp hp).elim (fun e => N5 p (e ▸ .head _)) fun hp => N5 p (.tail _ (.tail _ hp))
      · rw [PySem.sizeLine_eq]; show 3 ≤ _; decide
    · rw [PySem.sizeLine_eq]; show 3 ≤ _; decide
end

section
open PySem.Calls PyProof.V
theorem fig_less {k : Int} (h : 0 < k) : (k.fdiv 911).toNat < k.toNat := by
  rw [Int.fdiv_eq_ediv_of_nonneg _ (by decide)]
  exact (Int.toNat_lt_toNat h).mpr (Int.ediv_lt_self_of_pos_of_ne_one h (by decide))
section
variable {c : Cx} {n : Nat} {m : Str → Option Value} {s : Shared} {D l0 : Addr} {its : Array Value} {k0 : Nat} {own : LedT}
/-- figures.append(figure % 911); figure = figure // 911 -/
abbrev xl : Str := Str.ofString "figures"
abbrev xf : Str := Str.ofString "figure"
theorem fig_step {us : List Value} {is : List Int} {nn i1 i2 : Nat} {z : Int} {t : Tok} {p1 p2 p3 p4 p5 p6 p7 p8 p9 p10 p11 p12 : Pos} {ss : List Stmt} {Q : Flow → Shared → Prop} {pl : Sem Bool} (he : eval (.Call (.Attribute (.Name xl p1) (Str.ofString "append") p2) [.BinOp (.Name xf p3) .Mod (.Constant (.int 911) i1 p4) p5] [] p6) c.env = (do
      let ov ← eval (.Name xl p1) c.env
      standAt p2.atName
      let (f, first) ← holding [ov] (getMethod ov (Str.ofString "append") pl)
      callWith p6 f first (backTo p6 (starEach [.BinOp (.Name xf p3) .Mod (.Constant (.int 911) i1 p4) p5] c.env)) [])) (O : c.Ok n) (hl : locOk c.cs xl = true) (hf : locOk c.cs xf = true)
    (ml : m xl = some (.ref D)) (mf : m xf = some (.int z t)) (F : Fr c.h₀ c.L s.heap m) (N : News c.h₀ c.L s.heap ((D, W.listOf us.toArray nn) :: own)) (ho : ∀ q ∈ own, q.1 ≠ D) (hi : IntsAre us is) (hz : us.length ≤ 10000)
    (kk : ∀ h tk m' us' is' n' t', Fr c.h₀ c.L h m' → News c.h₀ c.L h ((D, W.listOf (us' : List Value).toArray n') :: own) → IntsAre us' is' → us'.length = us.length + 1 → m' xf = some (.int (z.fdiv 911) t') → (∀ y, y ≠ xf → m' y = m y) → wpAny (model PRG c.w) c.A (execs ss c.env) Q NoE { s with heap := h, toks := tk }) :
    wpAny (model PRG c.w) c.A (execs (.Expr (.Call (.Attribute (.Name xl p1) (Str.ofString "append") p2) [.BinOp (.Name xf p3) .Mod (.Constant (.int 911) i1 p4) p5] [] p6) p7 :: .Assign [.Name xf p8] (.BinOp (.Name xf p9) .FloorDiv (.Constant (.int 911) i2 p10) p11) p12 :: ss) c.env) Q NoE s := by
  have hint : interactive c.env = false := by show (c.cs.kind == .module && _) = false; rw [O.kind]; rfl
  have np : Builtin.divisionGoesByPylong z 911 = false := noPy (by decide)
  refine wpAny_execs_cons (wpAny_Expr_any (PyProof.Rows.MethodCall_ (ld_loc hl F ml (PySem.W.listMethod_K N (.head _) PySem.F.slot_list_append PySem.F.type_list_append (PyProof.Rows.callWith_method1 (args_cons (wpAny_BinOp (ld_loc hf F mf (wpAny_Constant_int (PyProof.Rows.mod_int' (by decide) (args_nil (PySem.W.append_K (s := { s with toks := _ }) F N (.head ho) (fun h1 F1 N1 => ?_) ?_)))))) (star_cons rfl)) (star_cons rfl) rfl))) he) hint)
  · refine (fun (k : ∀ t1 : Tok, News c.h₀ c.L h1 ((D, W.listOf (us ++ [Value.int (z.fmod 911) t1]).toArray (nn + 1)) :: own) → _) => k _ (by rw [List.push_toArray] at N1; exact N1)) ?_
    clear N1
    intro t1 N1
    refine wpAny_execs_cons (wpAny_Assign_Name (wpAny_BinOp (ld_loc (s := { s with heap := h1, toks := _ }) hf F1 mf (wpAny_Constant_int (PyProof.Rows.floordiv_int (by decide) ?_ (.inl np))))) (swap_ok rfl))
    exact st_m (s := { s with heap := h1, toks := _ }) hf F1 N1 fun h2 m2 F2 N2 w2 e2 => kk h2 _ m2 _ (is ++ [z.fmod 911]) _ _ F2 N2 (ksk_snoc hi) (by rw [List.length_append]; rfl) w2 e2
  · show us.toArray.size ≤ _
    rw [PySem.sizeLine_eq, List.size_toArray]; exact Nat.le_trans hz (by decide)
end
end

section
open PySem.Calls PyProof.V
theorem fig_while {c : Cx} {n b : Nat} {m : Str → Option Value} {s : Shared} {D : Addr} {own : LedT} {us : List Value} {is : List Int} {nn i1 i2 i3 i4 : Nat} {z : Int} {t : Tok} {p1 p2 p3 p4 p5 p6 p7 p8 p9 p10 p11 p12 q1 q2 q3 q4 q5 q6 q7 q8 q9 d7 : Pos} {Q : Flow → Shared → Prop} {pl : Sem Bool}
    (he : eval (.Call (.Attribute (.Name xl p1) (Str.ofString "append") p2) [.BinOp (.Name xf p3) .Mod (.Constant (.int 911) i1 p4) p5] [] p6) c.env = (do
      let ov ← eval (.Name xl p1) c.env
      standAt p2.atName
      let (f, first) ← holding [ov] (getMethod ov (Str.ofString "append") pl)
      callWith p6 f first (backTo p6 (starEach [.BinOp (.Name xf p3) .Mod (.Constant (.int 911) i1 p4) p5] c.env)) [])) (O : c.Ok n) (hl : locOk c.cs xl = true) (hf : locOk c.cs xf = true) (hln : globOk c.cs (Str.ofString "len") = true)
    (ml : m xl = some (.ref D)) (mf : m xf = some (.int z t)) (F : Fr c.h₀ c.L s.heap m) (N : News c.h₀ c.L s.heap ((D, W.listOf us.toArray nn) :: own)) (ho : ∀ q ∈ own, q.1 ≠ D) (hi : IntsAre us is) (hz : us.length ≤ b + 120) (hb : b + 120 ≤ 9000)
    (kk : ∀ h tk m' us' is' n', Fr c.h₀ c.L h m' → News c.h₀ c.L h ((D, W.listOf (us' : List Value).toArray n') :: own) → IntsAre us' is' → us'.length ≤ b + 120 → (∀ y, y ≠ xf → m' y = m y) → Q .next { s with heap := h, toks := tk }) :
    wpAny (model PRG c.w) c.A (exec (.While (.BoolOp .And [.Compare (.Name xf q1) [.Gt] [.Constant (.int 0) i3 q2] q3, .Compare (.Call (.Name (Str.ofString "len") q4) [.Name xl q5] [] q6) [.Lt] [.Constant (.int 120) i4 q7] q8] q9) [.Expr (.Call (.Attribute (.Name xl p1) (Str.ofString "append") p2) [.BinOp (.Name xf p3) .Mod (.Constant (.int 911) i1 p4) p5] [] p6) p7, .Assign [.Name xf p8] (.BinOp (.Name xf p9) .FloorDiv (.Constant (.int 911) i2 p10) p11) p12] [] d7) c.env) Q NoE s := by
  refine While_inv2 (fun k m1 nx => ∃ us is nn z t, nx = (D, W.listOf (us : List Value).toArray nn) :: own ∧ IntsAre us is ∧ us.length ≤ b + 120 ∧ m1 xf = some (.int z t) ∧ (∀ y, y ≠ xf → m1 y = m y) ∧ k = z.toNat) (n₀ := z.toNat) F N ⟨us, is, nn, z, t, rfl, hi, hz, mf, fun _ _ => rfl, rfl⟩ ?_ PassesOwn.never
  rintro k m1 nx h1 tk1 F1 N1 ⟨us1, is1, n1, z1, t1, rfl, hi1, hz1, mf1, e1, rfl⟩
  have ml1 := (e1 xl (by decide +kernel)).trans ml
  have fin : ∀ tk, Q .next { s with heap := h1, toks := tk } := fun tk => kk h1 tk m1 us1 is1 n1 F1 N1 hi1 hz1 e1
  refine PyProof.Rows.isTrue_and (wpAny_isTrue_Compare1 (ld_loc (s := { s with heap := h1, toks := tk1 }) hf F1 mf1 (wpAny_Constant_int (PyProof.Rows.gt_int (wpAny_truthy_bool ?_)))) rfl)
  by_cases hz0 : 0 < z1
  · rw [if_pos (decide_eq_true hz0)]
    refine PyProof.Rows.isTrue_and (wpAny_isTrue_Compare1 (Call_ (ld_blt (v := .builtin "len") O hln F1 (gb_len c.w) PySem.boot_len (by decide +kernel) (callWith_builtin1 (args_cons (ld_loc hl F1 ml1 (args_nil (PySem.W.kst_len N1 (.head _) rfl (Int.lt_of_le_of_lt (Int.ofNat_le.mpr (Nat.le_trans hz1 hb)) (by decide)) (wpAny_Constant_int (PyProof.Rows.lt_int (wpAny_truthy_bool ?_)))))) (star_cons rfl)) (star_cons rfl) rfl))) rfl)
    by_cases hl0 : (us1.length : Int) < 120
    · rw [if_pos (decide_eq_true hl0)]
      refine PyProof.Rows.isTrue_and_nil ?_
      rw [if_pos rfl]
      exact fig_step (s := { s with heap := h1, toks := _ }) (n := n) he O hl hf ml1 mf1 F1 N1 ho hi1 (Nat.le_trans hz1 (Nat.le_trans hb (by decide))) fun h2 tk2 m2 us2 is2 n2 t2 F2 N2 hi2 hz2 mf2 e2 => wpAny_execs_nil ⟨h2, tk2, m2, _, _, rfl, F2, N2, fig_less hz0, us2, is2, n2, z1.fdiv 911, t2, rfl, hi2, by rw [hz2]; exact Nat.le_trans (Int.ofNat_lt.mp hl0) (Nat.le_add_left _ _), mf2, fun y hy => (e2 y hy).trans (e1 y hy), rfl⟩
    · rw [if_neg (by rw [decide_eq_true_eq]; exact hl0)]
      rw [if_neg (by decide)]
      exact fin _
  · rw [if_neg (by rw [decide_eq_true_eq]; exact hz0)]
    rw [if_neg (by decide)]
    exact fin _
end

section
open PySem.Calls PyProof.V
abbrev xc : Str := Str.ofString "cell"
theorem fig_turn {c : Cx} {n b : Nat} {m : Str → Option Value} {s : Shared} {D : Addr} {own : LedT} {us : List Value} {is : List Int} {nn i1 i2 i3 i4 j1 j2 j3 j4 j5 : Nat} {z : Int} {t : Tok} {p1 p2 p3 p4 p5 p6 p7 p8 p9 p10 p11 p12 q1 q2 q3 q4 q5 q6 q7 q8 q9 : Pos} {a1 a2 a3 a4 a5 a6 a7 a8 a9 b1 b2 b3 b4 b5 b6 b7 b8 b9 d1 d2 d3 d4 d5 d6 d7 : Pos} {Q : Flow → Shared → Prop} {pl pl2 : Sem Bool}
    (he : eval (.Call (.Attribute (.Name xl p1) (Str.ofString "append") p2) [.BinOp (.Name xf p3) .Mod (.Constant (.int 911) i1 p4) p5] [] p6) c.env = (do
      let ov ← eval (.Name xl p1) c.env
      standAt p2.atName
      let (f, first) ← holding [ov] (getMethod ov (Str.ofString "append") pl)
      callWith p6 f first (backTo p6 (starEach [.BinOp (.Name xf p3) .Mod (.Constant (.int 911) i1 p4) p5] c.env)) []))
    (he2 : eval (.Call (.Attribute (.Name xl b1) (Str.ofString "append") b2) [.BinOp (.Name xf b3) .Mod (.Constant (.int 911) j1 b4) b5] [] b6) c.env = (do
      let ov ← eval (.Name xl b1) c.env
      standAt b2.atName
      let (f, first) ← holding [ov] (getMethod ov (Str.ofString "append") pl2)
      callWith b6 f first (backTo b6 (starEach [.BinOp (.Name xf b3) .Mod (.Constant (.int 911) j1 b4) b5] c.env)) []))
    (O : c.Ok n) (hl : locOk c.cs xl = true) (hf : locOk c.cs xf = true) (hxc : locOk c.cs xc = true) (hln : globOk c.cs (Str.ofString "len") = true)
    (ml : m xl = some (.ref D)) (mc : m xc = some (.int z t)) (F : Fr c.h₀ c.L s.heap m) (N : News c.h₀ c.L s.heap ((D, W.listOf us.toArray nn) :: own)) (ho : ∀ q ∈ own, q.1 ≠ D) (hi : IntsAre us is) (hz : us.length + 1 ≤ b) (hb : b + 120 ≤ 9000)
    (kk : ∀ h tk m' us' is' n', Fr c.h₀ c.L h m' → News c.h₀ c.L h ((D, W.listOf (us' : List Value).toArray n') :: own) → IntsAre us' is' → us'.length ≤ b + 120 → (∀ y, y ≠ xf → m' y = m y) → Q .next { s with heap := h, toks := tk }) :
    wpAny (model PRG c.w) c.A (execs [.Assign [.Name xf a1] (.IfExp (.Compare (.Name xc a2) [.GtE] [.Constant (.int 0) j2 a3] a4) (.Name xc a5) (.BinOp (.Constant (.int 3) j3 a6) .Sub (.BinOp (.Constant (.int 2) j4 a7) .Mult (.Name xc a8) a9) d1) d2) d3,
      .Expr (.Call (.Attribute (.Name xl b1) (Str.ofString "append") b2) [.BinOp (.Name xf b3) .Mod (.Constant (.int 911) j1 b4) b5] [] b6) b7, .Assign [.Name xf b8] (.BinOp (.Name xf b9) .FloorDiv (.Constant (.int 911) j5 d4) d5) d6,
      .While (.BoolOp .And [.Compare (.Name xf q1) [.Gt] [.Constant (.int 0) i3 q2] q3, .Compare (.Call (.Name (Str.ofString "len") q4) [.Name xl q5] [] q6) [.Lt] [.Constant (.int 120) i4 q7] q8] q9) [.Expr (.Call (.Attribute (.Name xl p1) (Str.ofString "append") p2) [.BinOp (.Name xf p3) .Mod (.Constant (.int 911) i1 p4) p5] [] p6) p7, .Assign [.Name xf p8] (.BinOp (.Name xf p9) .FloorDiv (.Constant (.int 911) i2 p10) p11) p12] [] d7] c.env) Q NoE s := by
  have fin : ∀ (k : Int) (t' : Tok) (tk : Nat), wpAny (model PRG c.w) c.A (storeName c.env xf (.int k t')) (fun _ s' => wpAny (model PRG c.w) c.A (execs [.Expr (.Call (.Attribute (.Name xl b1) (Str.ofString "append") b2) [.BinOp (.Name xf b3) .Mod (.Constant (.int 911) j1 b4) b5] [] b6) b7, .Assign [.Name xf b8] (.BinOp (.Name xf b9) .FloorDiv (.Constant (.int 911) j5 d4) d5) d6,
      .While (.BoolOp .And [.Compare (.Name xf q1) [.Gt] [.Constant (.int 0) i3 q2] q3, .Compare (.Call (.Name (Str.ofString "len") q4) [.Name xl q5] [] q6) [.Lt] [.Constant (.int 120) i4 q7] q8] q9) [.Expr (.Call (.Attribute (.Name xl p1) (Str.ofString "append") p2) [.BinOp (.Name xf p3) .Mod (.Constant (.int 911) i1 p4) p5] [] p6) p7, .Assign [.Name xf p8] (.BinOp (.Name xf p9) .FloorDiv (.Constant (.int 911) i2 p10) p11) p12] [] d7] c.env) Q NoE s') NoE { s with toks := tk } := fun k t' tk =>
    st_m (s := { s with toks := tk }) hf F N fun h1 m1 F1 N1 w1 e1 => fig_step (s := { s with heap := h1, toks := _ }) (n := n) he2 O hl hf ((e1 xl (by decide +kernel)).trans ml) w1 F1 N1 ho hi (by omega) fun h2 tk2 m2 us2 is2 n2 t2 F2 N2 hi2 hz2 w2 e2 =>
      wpAny_execs_cons (fig_while (s := { s with heap := h2, toks := tk2 }) (n := n) (b := b) he O hl hf hln ((e2 xl (by decide +kernel)).trans ((e1 xl (by decide +kernel)).trans ml)) w2 F2 N2 ho hi2 (by omega) hb fun h3 tk3 m3 us3 is3 n3 F3 N3 hi3 hz3 e3 => wpAny_execs_nil (kk h3 tk3 m3 us3 is3 n3 F3 N3 hi3 hz3 fun y hy => (e3 y hy).trans ((e2 y hy).trans (e1 y hy))))
  refine wpAny_execs_cons (wpAny_Assign_Name (PyProof.Rows.IfExp_ (wpAny_isTrue_Compare1 (ld_loc hxc F mc (wpAny_Constant_int (PyProof.Rows.ge_int (wpAny_truthy_bool ?_)))) rfl)) (swap_ok rfl))
  by_cases h0 : 0 ≤ z
  · rw [if_pos (decide_eq_true h0)]
    exact ld_loc (s := { s with toks := _ }) hxc F mc (fin z t _)
  · rw [if_neg (by rw [decide_eq_true_eq]; exact h0)]
    exact wpAny_BinOp (wpAny_Constant_int (wpAny_BinOp (wpAny_Constant_int (ld_loc (s := { s with toks := _ }) hxc F mc (PyProof.Rows.mul_int (PyProof.Rows.sub_int (fin _ _ _)) (mulOk (by decide)))))))
end

section
open PySem.Calls PyProof.V
noncomputable def ns_figures : List Str := [Str.ofString "script", xl, xc, xf]
theorem ints_rev {us : List Value} {is : List Int} (h : IntsAre us is) : IntsAre us.reverse is.reverse := by
  induction h with
  | nil => exact .nil
  | cons k t _ ih => rw [List.reverse_cons, List.reverse_cons]; exact ksk_snoc ih
/-- what holds between the turns: the list of figures at D, the slice at l0 -/
noncomputable def FigJ (m0 : Str → Option Value) (D l0 : Addr) (ws : Array Value) (i : Nat) (m : Str → Option Value) (nx : LedT) : Prop :=
  ∃ us is n, nx = [(l0, W.listOf ws 0), (D, W.listOf (us : List Value).toArray n)] ∧ IntsAre us is ∧ us.length ≤ 121 * i ∧ ∀ y, y ≠ xf → y ≠ xc → m y = m0 y
theorem slice_ev {c : Cx} {m : Str → Option Value} {s : Shared} {g : LedT} {x : Str} {sc : Addr} {xs : List Value} {l : List Int} {k : Nat} {p1 p2 p3 p4 : Pos} {Q : Value → Shared → Prop} (hx : locOk c.cs x = true) (hm : m x = some (.ref sc)) (F : Fr c.h₀ c.L s.heap m) (N : News c.h₀ c.L s.heap g) (hL : s.heap.IsList sc xs.toArray) (hi : IntsAre xs l) (hlen : xs.length ≤ 63)
    (kk : ∀ l0 ws h' tk, Fr c.h₀ c.L h' m → News c.h₀ c.L h' ((l0, W.listOf (ws : List Value).toArray 0) :: g) → (∀ p ∈ g, p.1 < l0) → IntsAre ws (l.take 20) → Q (.ref l0) { s with heap := h', toks := tk }) :
    wpAny (model PRG c.w) c.A (eval (.Subscript (.Name x p1) (.Slice none (some (.Constant (.int 20) k p2)) none p3) p4) c.env) Q NoE s :=
  PyProof.Rows.Subscript_ (ld_loc hx F hm (wpAny_Slice (evalPart_none_step (evalPart_some_step (wpAny_Constant_int (evalPart_none_step (PySem.W.kmk_slice_ints (s := { s with toks := _ }) F N hL .none (.int _ _) hi (PySem.W.kmk_upto hi (by decide)) rfl (fun D ws h' F' N' l1 hi' _ _ => kk D ws h' _ F' N' l1 hi') rfl (fun _ => rfl) (by rw [PySem.sizeLine_eq, List.size_toArray]; exact Nat.le_trans hlen (by decide)))))))))
theorem loc_kd {c : Cx} {x : Str} (hx : locOk c.cs x = true) : c.env.kindOf x = some .local := (loc_parts (c := c) hx).2.1
theorem m_figures {c : Cx} {m : Str → Option Value} {s : Shared} {sc : Addr} {Q : Value → Shared → Prop}
    (B : Below c.A₀ c.base c.outer c.h₀) (X : (hd.heap_39 c.w.params).In c.h₀) (Tp : Top hd.view_39 c.loose c.mean c.mg c.mb c.h₀) (hkd : c.cs.kind = .function) (hroom : c.dp + (28 + 10) < recursionLimit) (hun : c.un + 8 * (28 + 10) < cLine)
    (F : Fr c.h₀ c.L s.heap m) (N : News c.h₀ c.L s.heap []) (hS : Scr c sc) (kk : ∀ D h tk, Fr c.h₀ c.L h m → Cell c h D [] → Q (.ref D) { s with heap := h, toks := tk }) : wpAny (model PRG c.w) c.A (call (.ref 154) [.ref sc]) Q NoE s := by
  refine' frame_of (n := 28) (ar := 1) ns_figures ?ho ?hcd ?hb ?hsc ?hco ?hgen ?hk B X Tp hkd hroom hun F N rfl ?hT
  case ho => k_is
  case hcd => k_is
  case hb =>
    intro vs hv
    obtain ⟨a0, rfl⟩ := len1 hv
    exact rfl
  case hsc => kernel_rfl!
  case hco => rfl
  case hgen => rfl
  case hk => rfl
  case hT =>
    intro L' g' h tk m' P O hloc hnd F N hm fin
    refine (fun (k : ∀ c' : Cx, globOk c'.cs (Str.ofString "len") = true → c'.base = c.base → c'.Ok 28 → (∀ x ∈ ns_figures, locOk c'.cs x = true) → Fr c'.h₀ c'.L h m' → News c'.h₀ c'.L h [] →
      (∀ fl h2 tk2 m2 g2, Fr c'.h₀ c'.L h2 m2 → News c'.h₀ c'.L h2 g2 → (Fr c.h₀ c.L h2 m → News c.h₀ c.L h2 g2 → Q (flV fl) { s with heap := h2, toks := tk2 }) → P fl { s with heap := h2, toks := tk2 }) → wpAny (model PRG c'.w) c'.A (execs _ c'.env) P NoE { s with heap := h, toks := tk }) => k (c.callee _ _ L' _ _ g') (show globOk _ _ = true from by kernel_rfl!) rfl O hloc F N fin) ?_
    clear O F N fin hloc
    intro c' hln hba O hloc F N fin
    have l0 := hloc (nameAt ns_figures 0) (.head _)
    have l1 := hloc (nameAt ns_figures 1) (.tail _ (.head _))
    have l2 := hloc (nameAt ns_figures 2) (.tail _ (.tail _ (.head _)))
    have l3 := hloc (nameAt ns_figures 3) (.tail _ (.tail _ (.tail _ (.head _))))
    have ms := hm (nameAt ns_figures 0) (.ref sc) (.head _)
    have hint : interactive c'.env = false := by show (c'.cs.kind == .module && _) = false; rw [O.kind]; rfl
    refine wpAny_execs_cons (wpAny_Assign_Name (List_ (args_nil (newList_K (s := { s with heap := h, toks := tk }) F N fun D h1 F1 N1 _ => ?_))) (swap_ok rfl))
    refine st_m (s := { s with heap := h1, toks := tk }) l1 F1 N1 fun h2 m2 F2 N2 w2 e2 => ?_
    obtain ⟨xs, l, hi, hl, hL⟩ := Scr.at (c := c') O (show Scr c' sc from by unfold Scr; rw [hba]; exact hS)
    have ms2 := (e2 _ (by decide +kernel)).trans ms
    refine wpAny_execs_cons (For_invVF F2 (loc_kd l2) (by show (c'.cs.kind == .class || (c'.cs.kind == .module && c'.L != mainGlobals)) = false; rw [O.kind]; rfl) (slice_ev (s := { s with heap := h2, toks := _ }) l0 ms2 F2 N2 (hL F2) hi hl fun l0 ws h3 tk3 F3 N3 hlt hi3 => ?_) (fun _ => rfl) PassesOwn.never)
    have hne : D ≠ l0 := Nat.ne_of_lt (hlt _ (.head _))
    have hlen : (l.take 20).length ≤ 20 := by rw [List.length_take]; exact Nat.min_le_left _ _
    refine PySem.W.iter_invNL (s := { s with heap := h3, toks := tk3 }) (FigJ m2 D l0 ws.toArray) rfl (.head _) hi3 F3 N3 ⟨[], [], 0, rfl, .nil, Nat.zero_le _, fun _ _ _ => rfl⟩ ?_ ?_
    · rintro i z t m4 g4 h4 tk4 own hz _ hoff _ ⟨us, is, n4, rfl, hi4, hz4, e4⟩ F4 N4
      have hi20 : i < 20 := by
        obtain ⟨q, _⟩ := List.getElem?_eq_some_iff.mp hz
        exact Nat.lt_of_lt_of_le q hlen
      exact fig_turn (s := { s with heap := h4, toks := tk4 }) (n := 28) (b := 121 * i + 1) (own := (l0, W.listOf ws.toArray 0) :: own) rfl rfl O l1 l3 l2 hln ((if_neg (by decide +kernel)).trans ((e4 xl (by decide +kernel) (by decide +kernel)).trans w2)) (if_pos rfl) F4 (fun p hp => N4 p (List.Perm.mem_iff (.swap _ _ _) |>.mp hp)) (List.forall_mem_cons.mpr ⟨hne.symm, fun q hq => hoff q hq D (.tail _ (.head _))⟩) hi4 (Nat.succ_le_succ hz4) (Nat.le_trans (Nat.add_le_add_right (Nat.succ_le_succ (Nat.mul_le_mul_left 121 (Nat.le_of_lt hi20))) 120) (by decide)) fun h5 tk5 m5 us5 is5 n5 F5 N6 hi5 hz5 e5 =>
        PySem.W.InvEndN.intro (s₁ := { s with heap := h4, toks := tk4 }) F5 N6 ⟨.head _, us5, is5, n5, rfl, hi5, hz5, fun y h1 h2 => (e5 y h1).trans ((if_neg h2).trans (e4 y h1 h2))⟩ rfl (fun p hp => List.mem_append_left own ((List.Perm.mem_iff (.swap _ _ _)).mp hp)) (fun p hp => .tail _ (.tail _ hp))
    · rintro m4 g4 h4 tk4 _ ⟨us, is, n4, rfl, hi4, hz4, e4⟩ F4 N4
      have ml4 := (e4 xl (by decide +kernel) (by decide +kernel)).trans w2
      have hz5 : us.length ≤ 121 * 20 := Nat.le_trans hz4 (Nat.mul_le_mul_left 121 hlen)
      refine wpAny_execs_cons (wpAny_Expr_any (PyProof.Rows.MethodCall_ (ld_loc (s := { s with heap := h4, toks := tk4 }) l1 F4 ml4 (PySem.W.kl_method (s := { s with heap := h4, toks := tk4 }) N4 (.tail _ (.head _)) PySem.F.slot_list_reverse PySem.F.type_list_reverse (PyProof.Rows.callWith_method0 (PySem.W.kl_reverse (s := { s with heap := h4, toks := tk4 }) (l := us.reverse) (n := n4) F4 N4 rfl (.tail hne.symm (.head fun _ h => nomatch h)) (by rw [PySem.sizeLine_eq]; exact Nat.le_trans hz5 (by decide)) fun h5 F5 N5 => ?_)))) rfl) hint)
      exact wpAny_execs_cons (wpAny_Return_some (ld_loc (s := { s with heap := h5, toks := tk4 }) l1 F5 ml4 (fin (.ret _) h5 _ _ _ F5 N5 fun F6 N6 => kk D h5 _ F6 ⟨us.reverse, is.reverse, n4, fun p hp => N6 p (.tail _ hp), ints_rev hi4, by rw [List.length_reverse]; exact Nat.le_trans hz5 (by decide), fun _ h => nomatch h⟩)))
end

theorem gn_iv (w : World) : nsIn (hd.heap_39 w.params) mainGlobals (Str.ofString "_law_interval") = some (some (.ref 175)) := okFn_is (by kernel_rfl!)
theorem gk_iv (w : World) : keepIn (hd.heap_39 w.params) (.ref 175) = true := by kernel_rfl!
theorem gn_in (w : World) : nsIn (hd.heap_39 w.params) mainGlobals (Str.ofString "_law_inside") = some (some (.ref 182)) := okFn_is (by kernel_rfl!)
theorem gk_in (w : World) : keepIn (hd.heap_39 w.params) (.ref 182) = true := by kernel_rfl!
theorem gn_fig (w : World) : nsIn (hd.heap_39 w.params) mainGlobals (Str.ofString "_law_figures") = some (some (.ref 154)) := okFn_is (by kernel_rfl!)
theorem gk_fig (w : World) : keepIn (hd.heap_39 w.params) (.ref 154) = true := by kernel_rfl!
theorem gb_range (w : World) : nsIn (hd.heap_39 w.params) mainGlobals (Str.ofString "range") = some none := okBl_is (by kernel_rfl!)
section
open PySem.Calls PyProof.V
noncomputable def ns_law : List Str := [Str.ofString "script", xl, Str.ofString "lap", Str.ofString "x", Str.ofString "y", Str.ofString "firsts", Str.ofString "seconds"]
abbrev ic_law (f : Nat) : IE := .un .not (.call f (.acons 0 (.var 3) (.acons 0 (.var 4) (.acons 0 (.var 5) (.acons 0 (.var 6) .anil)))))
theorem law_turn {c : Cx} {m : Str → Option Value} {s : Shared} {D sc : Addr} {own : LedT} {t1 t2 t3 : Expr} {b1 b2 b3 : List Stmt} {p1 p2 p3 p4 p5 p6 q1 q2 q3 q4 q5 q6 u1 u2 u3 u4 u5 u6 v1 v2 v3 v4 v5 v6 r1 r2 r3 : Pos} {Q : Flow → Shared → Prop}
    (O : c.Ok 31) (C : Ctx c ns_law 28 CT) (hgi : globOk c.cs (Str.ofString "_law_interval") = true) (hgn : globOk c.cs (Str.ofString "_law_inside") = true) (hS : Scr c sc)
    (h1 : chkE (CK c ns_law 28) (ic_law 23) t1 = true) (h2 : chkE (CK c ns_law 28) (ic_law 26) t2 = true) (h3 : chkE (CK c ns_law 28) (ic_law 27) t3 = true)
    (k1 : chkS (CK c ns_law 28) (.ret (.lit (.bool false))) [] b1 = true) (k2 : chkS (CK c ns_law 28) (.ret (.lit (.bool false))) [] b2 = true) (k3 : chkS (CK c ns_law 28) (.ret (.lit (.bool false))) [] b3 = true)
    (ms : m (nameAt ns_law 0) = some (.ref sc)) (mf : m (nameAt ns_law 1) = some (.ref D)) (F : Fr c.h₀ c.L s.heap m) (C0 : Cell c s.heap D own)
    (kk : ∀ h tk g' m', Fr c.h₀ c.L h m' → Cell c h D g' → Sub own g' → m' (nameAt ns_law 0) = some (.ref sc) → m' (nameAt ns_law 1) = some (.ref D) → Q .next { s with heap := h, toks := tk }) :
    wpAny (model PRG c.w) c.A (execs [.Assign [.Name (nameAt ns_law 3) p1] (.Call (.Name (Str.ofString "_law_interval") p2) [.Name (nameAt ns_law 1) p3, .Name (nameAt ns_law 0) p4] [] p5) p6,
      .Assign [.Name (nameAt ns_law 4) q1] (.Call (.Name (Str.ofString "_law_interval") q2) [.Name (nameAt ns_law 1) q3, .Name (nameAt ns_law 0) q4] [] q5) q6,
      .Assign [.Name (nameAt ns_law 5) u1] (.Call (.Name (Str.ofString "_law_inside") u2) [.Name (nameAt ns_law 1) u3, .Name (nameAt ns_law 3) u4] [] u5) u6,
      .Assign [.Name (nameAt ns_law 6) v1] (.Call (.Name (Str.ofString "_law_inside") v2) [.Name (nameAt ns_law 1) v3, .Name (nameAt ns_law 4) v4] [] v5) v6,
      .If t1 b1 [] r1, .If t2 b2 [] r2, .If t3 b3 [] r3] c.env) Q NoE s := by
  have hnd : ns_law.Nodup := by decide +kernel
  have l0 := C.loc (nameAt ns_law 0) (.head _)
  have l3 := C.loc (nameAt ns_law 3) (.tail _ (.tail _ (.tail _ (.head _))))
  have l4 := C.loc (nameAt ns_law 4) (.tail _ (.tail _ (.tail _ (.tail _ (.head _)))))
  have St0 : StM c ns_law 1 [.undef, .undef, .undef, .undef, .undef, .undef, .undef] D own m s.heap := ⟨F, C0, mf, .inl rfl, .inl rfl, .inl rfl, .inl rfl, .inl rfl, .inl rfl, .inl rfl, True.intro⟩
  refine ex_mc (n := 31) (fi := 1) (ns := ns_law) (fn := Str.ofString "_law_interval") (f := 175) (k := 30) (i := 3) (a := none) (K := K_iv) O (by decide) (m_interval c.w) hgi C.loc hnd (by decide) (by decide) (by decide) (gn_iv c.w) (gk_iv c.w) rfl (ae_scr l0 ms hS) St0 fun h1' tk1 g1 sv1 m1 hK1 hs1 e1 St1 => ?_
  obtain ⟨x0, x1, rfl, hX⟩ := hK1
  have ms1 := (e1 0 (by decide) (by decide)).trans ms
  refine ex_mc (n := 31) (fi := 1) (ns := ns_law) (fn := Str.ofString "_law_interval") (f := 175) (k := 30) (i := 4) (a := none) (K := K_iv) O (by decide) (m_interval c.w) hgi C.loc hnd (by decide) (by decide) (by decide) (gn_iv c.w) (gk_iv c.w) rfl (ae_scr l0 ms1 hS) St1 fun h2' tk2 g2 sv2 m2 hK2 hs2 e2 St2 => ?_
  obtain ⟨y0, y1, rfl, hY⟩ := hK2
  obtain ⟨vx, mx, hvx⟩ := EnvG.look (i := 3) St2.R (by show iv x0 x1 ≠ .undef; nofun)
  refine ex_mc (n := 31) (fi := 1) (ns := ns_law) (fn := Str.ofString "_law_inside") (f := 182) (k := 29) (i := 5) (a := some (iv x0 x1)) (K := K_in x0 x1) O (by decide) (m_inside c.w hX) hgn C.loc hnd (by decide) (by decide) (by decide) (gn_in c.w) (gk_in c.w) rfl (ae_var l3 mx hvx) St2 fun h3' tk3 g3 sv3 m3 hK3 hs3 e3 St3 => ?_
  obtain ⟨fs, rfl, hf4, mf4⟩ := hK3
  obtain ⟨vy, my, hvy⟩ := EnvG.look (i := 4) St3.R (by show iv y0 y1 ≠ .undef; nofun)
  refine ex_mc (n := 31) (fi := 1) (ns := ns_law) (fn := Str.ofString "_law_inside") (f := 182) (k := 29) (i := 6) (a := some (iv y0 y1)) (K := K_in y0 y1) O (by decide) (m_inside c.w hY) hgn C.loc hnd (by decide) (by decide) (by decide) (gn_in c.w) (gk_in c.w) rfl (ae_var l4 my hvy) St3 fun h4' tk4 g4 sv4 m4 hK4 hs4 e4 St4 => ?_
  obtain ⟨ss, rfl, hs4', ms4⟩ := hK4
  have hl : fs.length + ss.length ≤ 64 := by rw [hf4, hs4']; decide
  have tm : ∀ K : SV → Prop, K (.bool true) → T_mem [iv x0 x1, iv y0 y1, .ints fs, .ints ss] K := fun K h => ⟨x0, x1, y0, y1, fs, ss, rfl, ⟨hX, hY, mf4, ms4, hl⟩, h⟩
  have nr : ∀ sv, (fun _ : SV => False) sv → numV sv = true := fun _ h => h.elim
  refine ex_ifm (n := 28) (fi := 1) (ns := ns_law) (Γ := CT) (al := []) (ic := ic_law 23) (ir := .ret (.lit (.bool false))) (rt := fun _ => False) (W := True) C hnd rfl h1 k1 (by exact tm (unS .not (onB fun q => (q = true → _) ∧ (q = false → True))) ⟨nofun, fun _ => True.intro⟩) nr St4 (fun _ _ _ _ _ _ _ _ _ h => h.elim) fun h5 tk5 g5 _ hs5 St5 => ?_
  refine ex_ifm (n := 28) (fi := 1) (ns := ns_law) (Γ := CT) (al := []) (ic := ic_law 26) (ir := .ret (.lit (.bool false))) (rt := fun _ => False) (W := True) C hnd rfl h2 k2 (by exact tm (unS .not (onB fun q => (q = true → _) ∧ (q = false → True))) ⟨nofun, fun _ => True.intro⟩) nr St5 (fun _ _ _ _ _ _ _ _ _ h => h.elim) fun h6 tk6 g6 _ hs6 St6 => ?_
  refine ex_ifm (n := 28) (fi := 1) (ns := ns_law) (Γ := CT) (al := []) (ic := ic_law 27) (ir := .ret (.lit (.bool false))) (rt := fun _ => False) (W := True) C hnd rfl h3 k3 (by exact tm (unS .not (onB fun q => (q = true → _) ∧ (q = false → True))) ⟨nofun, fun _ => True.intro⟩) nr St6 (fun _ _ _ _ _ _ _ _ _ h => h.elim) fun h7 tk7 g7 _ hs7 St7 => ?_
  exact wpAny_execs_nil (kk h7 tk7 g7 m4 St7.F St7.C (hs1.trans (hs2.trans (hs3.trans (hs4.trans (hs5.trans (hs6.trans hs7)))))) ((e4 0 (by decide) (by decide)).trans ((e3 0 (by decide) (by decide)).trans ((e2 0 (by decide) (by decide)).trans ms1))) St7.fig)
end

section
open PySem.Calls PyProof.V
theorem law_body {c : Cx} {m : Str → Option Value} {s : Shared} {sc : Addr} {B : List Stmt} {i1 i2 : Nat} {p1 p2 p3 p4 p5 q1 q2 q3 q4 q5 r1 r2 : Pos} {Q : Flow → Shared → Prop}
    (O : c.Ok 31) (hloc : ∀ x ∈ ns_law, locOk c.cs x = true) (hgf : globOk c.cs (Str.ofString "_law_figures") = true) (hgr : globOk c.cs (Str.ofString "range") = true) (hS : Scr c sc)
    (hturn : c.Ok 31 → Ctx c ns_law 28 CT → ∀ (m : Str → Option Value) (s : Shared) (D : Addr) (own : LedT) (Q : Flow → Shared → Prop), m (nameAt ns_law 0) = some (.ref sc) → m (nameAt ns_law 1) = some (.ref D) → Fr c.h₀ c.L s.heap m → Cell c s.heap D own →
      (∀ h tk g' m', Fr c.h₀ c.L h m' → Cell c h D g' → Sub own g' → m' (nameAt ns_law 0) = some (.ref sc) → m' (nameAt ns_law 1) = some (.ref D) → Q .next { s with heap := h, toks := tk }) → wpAny (model PRG c.w) c.A (execs B c.env) Q NoE s)
    (ms : m (nameAt ns_law 0) = some (.ref sc)) (F : Fr c.h₀ c.L s.heap m) (N : News c.h₀ c.L s.heap [])
    (kk : ∀ h tk g' m', Fr c.h₀ c.L h m' → News c.h₀ c.L h g' → Q (.ret (.bool true)) { s with heap := h, toks := tk }) :
    wpAny (model PRG c.w) c.A (execs [.Assign [.Name (nameAt ns_law 1) p1] (.Call (.Name (Str.ofString "_law_figures") p2) [.Name (nameAt ns_law 0) p3] [] p4) p5,
      .For (.Name (nameAt ns_law 2) q1) (.Call (.Name (Str.ofString "range") q2) [.Constant (.int 2) i1 q3] [] q4) B [] q5, .Return (some (.Constant (.bool true) i2 r1)) r2] c.env) Q NoE s := by
  have l0 := hloc (nameAt ns_law 0) (.head _)
  have l1 := hloc (nameAt ns_law 1) (.tail _ (.head _))
  have l2 := hloc (nameAt ns_law 2) (.tail _ (.tail _ (.head _)))
  have hr := O.room
  have T := tabs c.w
  have hturn := hturn O ⟨⟨O.below, O.ins, O.top, O.kind, Nat.lt_of_le_of_lt (Nat.add_le_add_left (by decide) _) O.room, Nat.lt_of_le_of_lt (Nat.add_le_add_left (by decide) _) O.units⟩, hloc, fs_all c.w, T.nsI, T.kpI, T.glI, T.blI⟩
  have hu := O.units
  refine wpAny_execs_cons (wpAny_Assign_Name (Call_ (ld_glob O hgf F (gn_fig c.w) (callWith_K (h₀ := c.h₀) O.ins (gk_fig c.w) (args_cons (ld_loc l0 F ms (args_nil ⟨O.ins.keeps F.keep, m_figures O.below O.ins O.top O.kind (by omega) (by omega) F N hS fun D h tk F1 C1 => ?_⟩)) (star_cons rfl)) (star_cons rfl) rfl))) (swap_ok rfl))
  refine C1.store (h' := h) l1 F1 fun h2 F2 C2 => ?_
  obtain ⟨us, is, n, N2, hi, hz, hne⟩ := C2
  refine wpAny_execs_cons (For_invVF F2 (loc_kd l2) (by show (c.cs.kind == .class || (c.cs.kind == .module && c.L != mainGlobals)) = false; rw [O.kind]; rfl) (Call_ (ld_blt (v := .type "range") (s := { s with heap := h2, toks := _ }) O hgr F2 (gb_range c.w) boot_range (by decide +kernel) (Pv.callWith_type1 (args_cons (wpAny_Constant_int (args_nil (range1_rows (s := { s with heap := h2, toks := _ }) F2 N2 fun h3 tk3 t3 u3 v3 R3 F3 N3 _ => ?_))) (star_cons rfl)) (star_cons rfl) rfl))) (fun _ => rfl) PassesOwn.never)
  refine PySem.W.iter_rangeS (s := { s with heap := h3, toks := tk3 }) (σ := Unit) (n := 2) (fun _ m nx => ∃ us is n, nx = [(D, W.listOf (us : List Value).toArray n)] ∧ IntsAre us is ∧ us.length ≤ 10000 ∧ m (nameAt ns_law 0) = some (.ref sc) ∧ m (nameAt ns_law 1) = some (.ref D)) (fun _ _ => ()) () rfl R3 (by decide) rfl F3 N3
    ⟨us, is, n, rfl, hi, hz, (if_neg (by decide +kernel)).trans ms, if_pos rfl⟩ ?_ ?_
  · rintro k t _ m4 g4 h4 tk4 own _ hoff ⟨us4, is4, n4, rfl, hi4, hz4, ms4, mf4⟩ F4 N4
    refine hturn _ { s with heap := h4, toks := tk4 } D own _ ((if_neg (by decide +kernel)).trans ms4) ((if_neg (by decide +kernel)).trans mf4) F4 ⟨us4, is4, n4, N4, hi4, hz4, fun q hq => hoff q hq D (.head _)⟩ ?_
    rintro h5 tk5 g5 m5 F5 ⟨us5, is5, n5, N5, hi5, hz5, hne5⟩ hs5 ms5 mf5
    exact PySem.W.InvEndN.intro (s₁ := { s with heap := h4, toks := tk4 }) F5 N5 ⟨us5, is5, n5, rfl, hi5, hz5, ms5, mf5⟩ rfl (fun p hp => by cases hp with | head => exact .head _ | tail _ h => nomatch h) (fun p hp => .tail _ (hs5 p hp))
  · rintro m4 g4 h4 tk4 _ F4 N4
    exact wpAny_execs_cons (wpAny_Return_some (wpAny_Constant_bool (kk _ _ _ _ F4 N4)))
end

theorem law_walked : PySem.Challenge.rw_pb0321_01.Holds := hd (by
  k_go0
  all_goals try k_fold
  rename Fr _ _ _ _ => F9
  rename News _ _ _ _ => N9
  rename Below _ _ _ _ => K9
  rename Frag.In _ _ => X9
  rename Top _ _ _ _ _ _ => T9
  rename Heap.IsList _ _ _ => L9
  rename IntsAre _ _ => I9
  rename ¬ _ => H9
  refine wpAny_mono (E := NoE) (law_body (c := { w := _, dp := callerA.depth + 1, un := _, gd := _, cn := _, cs := _, L := _, a := _, cd := _, cl := [], outer := [], A₀ := callerA, base := _, h₀ := _, loose := _, mean := _, mg := _, mb := _ }) ⟨K9, X9, T9, rfl, ?q1, ?q2⟩ (fun x hx => List.all_eq_true.mp (show ns_law.all (locOk _) = true from ?q3) x hx) ?q4 ?q5 ⟨_, _, L9, I9, ?q6⟩ ?q7 ?q8 F9 N9 ?q9) (fun _ _ h => h) (fun _ _ h => h.elim)
  case q1 => show callerA.depth + 1 + (31 + 9) < recursionLimit; decide
  case q2 => show callerA.units + 3 + 8 * (31 + 9) < cLine; decide
  case q3 => kernel_rfl!
  case q4 => kernel_rfl!
  case q5 => kernel_rfl!
  case q6 => rw [IntsAre.length I9]; exact Int.ofNat_le.mp (Int.not_lt.mp H9)
  case q7 =>
    intro O C m s D own Q ms mf F C0 kk
    exact law_turn O C (by kernel_rfl!) (by kernel_rfl!) ⟨_, _, L9, I9, by rw [IntsAre.length I9]; exact Int.ofNat_le.mp (Int.not_lt.mp H9)⟩ (by kernel_rfl!) (by kernel_rfl!) (by kernel_rfl!) (by kernel_rfl!) (by kernel_rfl!) (by kernel_rfl!) ms mf F C0 kk
  case q8 => rfl
  case q9 =>
    intro h tk g' m' F' N'
    clear K9 T9
    dsimp only
    k_steps)


end Mine
theorem PySem.Challenge.cw_pb0321_01_holds : PySem.Challenge.rw_pb0321_01.Holds :=
  Mine.law_walked
